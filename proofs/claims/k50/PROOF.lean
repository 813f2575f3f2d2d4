import PyProof.Rows.All
import Wide.All
import OpenK.AllK
import Wide.FinOn
import HandS.ForMost
import HandS.ForExc
import HandS.IsInst
import HandS.Flow
import HandS.Wide
import HandS.Evl
import HandS.TupAny
import HandS.Deep
import HandS.CallLocal
import HandS.Rev
import HandS.Defaults
import HandS.Exc
import HandS.ExcOwn
import HandS.TryOnly
import HandS.WordsExc
import KE.KStateDown
import HandS.Head0
import HandS.Head1
import HandS.Head2
import HandS.HeadEnd
import HandS.HeadHook1
import HandS.HeadHook2
import HandS.HeadHook4
import HandS.Comp
import HandS.SetKeys
import HandS.TupSets
import HandS.Iter
import HandS.ExcIs
import HandS.RaiseMore
import HandS.TupMul
import HandS.List
import PySem.Challenge.RW_whatbefell_k50_rules_are_checked
set_option Elab.async false
set_option linter.all false
set_option maxRecDepth 100000
set_option maxHeartbeats 1000000
/-! Dn1: a def's body as a shallow Lean function over data and a small store: the relation, the judgements. -/
namespace Dn
open PySem L2

abbrev D := PyData
abbrev Ex (H H' : Hp) : Prop := ∀ a o, H a = some o → H' a = some o

/-- a slot: nothing, data, a cell of the store, a def -/
inductive S where
  | no
  | d (x : D)
  | cel (j : Nat)
  | fn (a : Addr)
/-- what a cell holds -/
inductive OC where
  | lst (xs : List D)
  | dK (kvs : List (Key × D))
/-- a result: data, a new object, a cell -/
inductive Rv where
  | d (x : D)
  | own (o : OC)
  | cel (j : Nat)
abbrev Store := List OC
inductive Res (α : Type) where
  | ok (a : α) (cs : Store)
  | er (c : Str) (cs : Store)
  | no
abbrev M (α : Type) := Store → Res α
section
variable {α β : Type}
def ret (a : α) : M α := fun cs => .ok a cs
def stuck : M α := fun _ => .no
def bnd (m : M α) (k : α → M β) : M β := fun cs => match m cs with
  | .ok a cs' => k a cs'
  | .er c cs' => .er c cs'
  | .no => .no
def ofO : Option α → M α
  | some a => ret a
  | none => stuck
theorem bnd_ok {m : M α} {k : α → M β} {cs cs' : Store} {a : α} (h : m cs = .ok a cs') : bnd m k cs = k a cs' := by
  unfold bnd; rw [h]
theorem bnd_ret {a : α} {k : α → M β} : bnd (ret a) k = k a := rfl
end

/-! ### data in the heap -/
mutual
inductive Dd (H : Hp) : V → D → Prop
  | non : Dd H .non .none
  | bl (b : Bool) : Dd H (.bl b) (.bool b)
  | int (i : Int) : Dd H (.int i) (.int i)
  | str (x : Str) : Dd H (.str x) (.str x)
  | lst {a : Addr} {xs : List V} {ds : List D} : Rd H a (.lst xs) → Dds H xs ds → Dd H (.ref a) (.list ds)
  | tup {a : Addr} {xs : List V} {ds : List D} : Rd H a (.tup xs) → Dds H xs ds → Dd H (.ref a) (.tuple ds)
inductive Dds (H : Hp) : List V → List D → Prop
  | nil : Dds H [] []
  | cons {v : V} {vs : List V} {d : D} {ds : List D} : Dd H v d → Dds H vs ds → Dds H (v :: vs) (d :: ds)
end
theorem rd_ex {H H' : Hp} (e : Ex H H') {a : Addr} {u : HO} (h : Rd H a u) : Rd H' a u := by
  rcases h with h | ⟨o, h⟩
  · exact .inl (e a _ h)
  · exact .inr ⟨o, e a _ h⟩
mutual
theorem dp_ex {H H' : Hp} (e : Ex H H') : ∀ {v : V} {d : D}, Dd H v d → Dd H' v d
  | _, _, .non => .non
  | _, _, .bl b => .bl b
  | _, _, .int i => .int i
  | _, _, .str x => .str x
  | _, _, .lst h a => .lst (rd_ex e h) (dps_ex e a)
  | _, _, .tup h a => .tup (rd_ex e h) (dps_ex e a)
theorem dps_ex {H H' : Hp} (e : Ex H H') : ∀ {vs : List V} {ds : List D}, Dds H vs ds → Dds H' vs ds
  | _, _, .nil => .nil
  | _, _, .cons h t => .cons (dp_ex e h) (dps_ex e t)
end
mutual
theorem dd_dp (K : PySem.W.Frag) {H : Hp} : ∀ {v : V} {d : D}, Dd H v d → Dp K H v d
  | _, _, .non => .non
  | _, _, .bl b => .bl b
  | _, _, .int i => .int i
  | _, _, .str x => .str x
  | _, _, .lst h a => .lst (.inl h) (dds_dp K a)
  | _, _, .tup h a => .tup (.inl h) (dds_dp K a)
theorem dds_dp (K : PySem.W.Frag) {H : Hp} : ∀ {vs : List V} {ds : List D}, Dds H vs ds → DpAll K H vs ds
  | _, _, .nil => .nil
  | _, _, .cons h t => .cons (dd_dp K h) (dds_dp K t)
end
section
variable {H H' Hf : Hp} {vs ws : List V} {ds es : List D} {v : V} {d : D}
theorem dps_len : ∀ {vs : List V} {ds : List D}, Dds H vs ds → vs.length = ds.length
  | _, _, .nil => rfl
  | _, _, .cons _ t => by rw [List.length_cons, List.length_cons, dps_len t]
theorem dps_get : ∀ {vs : List V} {ds : List D} {i : Nat} {d : D}, Dds H vs ds → ds[i]? = some d → ∃ v, vs[i]? = some v ∧ Dd H v d
  | _, _, _, _, .nil, e => by simp at e
  | _, _, 0, _, .cons h _, e => by simp at e; subst e; exact ⟨_, rfl, h⟩
  | _, _, i + 1, _, .cons _ t, e => by
    obtain ⟨v, h1, h2⟩ := dps_get (i := i) t (by simpa using e)
    exact ⟨v, by simpa using h1, h2⟩
theorem dps_get' : ∀ {vs : List V} {ds : List D} {i : Nat} {v : V}, Dds H vs ds → vs[i]? = some v → ∃ d, ds[i]? = some d ∧ Dd H v d
  | _, _, _, _, .nil, e => by simp at e
  | _, _, 0, _, .cons h _, e => by simp at e; subst e; exact ⟨_, rfl, h⟩
  | _, _, i + 1, _, .cons _ t, e => by
    obtain ⟨v, h1, h2⟩ := dps_get' (i := i) t (by simpa using e)
    exact ⟨v, by simpa using h1, h2⟩
theorem dps_app : ∀ {vs ws : List V} {ds es : List D}, Dds H vs ds → Dds H ws es → Dds H (vs ++ ws) (ds ++ es)
  | _, _, _, _, .nil, s => s
  | _, _, _, _, .cons h t, s => .cons h (dps_app t s)
theorem dps_take : ∀ (n : Nat) {vs : List V} {ds : List D}, Dds H vs ds → Dds H (vs.take n) (ds.take n)
  | 0, _, _, _ => .nil
  | _ + 1, _, _, .nil => .nil
  | n + 1, _, _, .cons h t => .cons h (dps_take n t)
theorem dps_drop : ∀ (n : Nat) {vs : List V} {ds : List D}, Dds H vs ds → Dds H (vs.drop n) (ds.drop n)
  | 0, _, _, h => h
  | _ + 1, _, _, .nil => .nil
  | n + 1, _, _, .cons _ t => dps_drop n t
theorem dps_set : ∀ {vs : List V} {ds : List D} {v : V} {d : D} (i : Nat), Dds H vs ds → Dd H v d → Dds H (vs.set i v) (ds.set i d)
  | _, _, _, _, _, .nil, _ => .nil
  | _, _, _, _, 0, .cons _ t, h => .cons h t
  | _, _, _, _, i + 1, .cons h' t, h => .cons h' (dps_set i t h)
theorem dps_dropLast (h : Dds H vs ds) : Dds H vs.dropLast ds.dropLast := by
  rw [List.dropLast_eq_take, List.dropLast_eq_take, dps_len h]
  exact dps_take _ h
end

/-- the content of a cell at a -/
def CellOk (Hf H : Hp) (a : Addr) : OC → Prop
  | .lst xs => ∃ vs, H a = some (.lst vs) ∧ Dds Hf vs xs
  | .dK kvs => ∃ ws, H a = some (.dK ws) ∧ Paired (fun (p : Key × V) (q : Key × D) => p.1 = q.1 ∧ Dd Hf p.2 q.2) ws kvs
def SvOk (ca : List Addr) (Hf : Hp) : S → V → Prop
  | .no, _ => False
  | .d x, v => Dd Hf v x
  | .cel j, v => ∃ a, ca[j]? = some a ∧ v = .ref a
  | .fn a, v => v = .ref a
/-- B: what is banned: the callers' things that are not ours -/
def RvOk (B : Hp) (ca : List Addr) (Hf H : Hp) : Rv → V → Prop
  | .d x, v => Dd Hf v x
  | .own o, v => ∃ a, v = .ref a ∧ CellOk Hf H a o ∧ Hf a = none ∧ a ∉ ca ∧ B a = none
  | .cel j, v => ∃ a, ca[j]? = some a ∧ v = .ref a
inductive SvsOk (ca : List Addr) (Hf : Hp) : List S → List V → Prop
  | nil : SvsOk ca Hf [] []
  | cons {s : S} {ss : List S} {v : V} {vs : List V} : SvOk ca Hf s v → SvsOk ca Hf ss vs → SvsOk ca Hf (s :: ss) (v :: vs)

structure Rel (B : Hp) (ca : List Addr) (ρ : List S) (cs : Store) (Hf : Hp) (σ : L2.St) (H : Hp) : Prop where
  ext : Ex Hf H
  len : σ.length = ρ.length
  sl : ∀ (i : Nat) (s : S), ρ[i]? = some s → s = .no ∨ ∃ v, σ[i]? = some (some v) ∧ SvOk ca Hf s v
  cells : ∀ (j : Nat) (o : OC), cs[j]? = some o → ∃ a, ca[j]? = some a ∧ CellOk Hf H a o
  lenc : ca.length = cs.length
  nd : ca.Nodup
  off : ∀ a ∈ ca, Hf a = none
  exb : Ex B H
  dis : ∀ a, B a ≠ none → Hf a = none ∧ a ∉ ca

structure Nx (ca : List Addr) (Hf : Hp) (ca' : List Addr) (Hf' : Hp) : Prop where
  pre : ca <+: ca'
  ex : Ex Hf Hf'
section
variable {B : Hp} {ca ca' ca'' : List Addr} {ρ : List S} {cs cs' : Store} {Hf Hf' Hf'' : Hp} {σ : L2.St} {H H' H'' : Hp} {s : S} {v : V} {r : Rv} {a : Addr} {o : OC}
theorem CellOk.some (h : CellOk Hf H a o) : H a ≠ none := by
  cases o with
  | lst xs => obtain ⟨vs, e, _⟩ := h; rw [e]; simp
  | dK kvs => obtain ⟨vs, e, _⟩ := h; rw [e]; simp
theorem CellOk.at (h : CellOk Hf H a o) (e : H' a = H a) (x : Ex Hf Hf') : CellOk Hf' H' a o := by
  cases o with
  | lst xs => obtain ⟨vs, q, p⟩ := h; exact ⟨vs, e.trans q, dps_ex x p⟩
  | dK kvs => obtain ⟨vs, q, p⟩ := h; exact ⟨vs, e.trans q, Paired.mapP p fun _ _ z => ⟨z.1, dp_ex x z.2⟩⟩
theorem Rel.there (r : Rel B ca ρ cs Hf σ H) (ha : a ∈ ca) : H a ≠ none := by
  obtain ⟨j, hj, e⟩ := List.mem_iff_getElem.mp ha
  have hj' : j < cs.length := by rw [← r.lenc]; exact hj
  obtain ⟨b, h1, h2⟩ := r.cells j cs[j] (by simp [hj'])
  have : b = a := by
    rw [List.getElem?_eq_getElem hj] at h1
    rw [← e]; exact (Option.some.inj h1).symm
  subst this
  exact h2.some
theorem Nx.refl : Nx ca Hf ca Hf := ⟨List.prefix_refl _, fun _ _ h => h⟩
theorem Nx.trans (x : Nx ca Hf ca' Hf') (y : Nx ca' Hf' ca'' Hf'') : Nx ca Hf ca'' Hf'' := ⟨x.pre.trans y.pre, fun a o h => y.ex a o (x.ex a o h)⟩
theorem SvOk.nx (h : SvOk ca Hf s v) (x : Nx ca Hf ca' Hf') : SvOk ca' Hf' s v := by
  cases s with
  | no => exact h
  | d d => exact dp_ex x.ex h
  | fn a => exact h
  | cel j =>
    obtain ⟨a, e, z⟩ := h
    exact ⟨a, by
      obtain ⟨t, rfl⟩ := x.pre
      rw [List.getElem?_append_left (List.getElem?_eq_some_iff.mp e).1]
      exact e, z⟩
theorem SvsOk.nx {ss : List S} {vs : List V} (h : SvsOk ca Hf ss vs) (x : Nx ca Hf ca' Hf') : SvsOk ca' Hf' ss vs := by
  induction h with
  | nil => exact .nil
  | cons h _ ih => exact .cons (h.nx x) ih
theorem SvsOk.len {ss : List S} {vs : List V} (h : SvsOk ca Hf ss vs) : ss.length = vs.length := by
  induction h with
  | nil => rfl
  | cons _ _ ih => simp [ih]
theorem SvsOk.get {ss : List S} {vs : List V} (h : SvsOk ca Hf ss vs) {i : Nat} {s : S} (e : ss[i]? = some s) : ∃ v, vs[i]? = some v ∧ SvOk ca Hf s v := by
  induction h generalizing i with
  | nil => simp at e
  | cons h _ ih =>
    cases i with
    | zero => simp at e; subst e; exact ⟨_, rfl, h⟩
    | succ i =>
      obtain ⟨v, h1, h2⟩ := ih (i := i) (by simpa using e)
      exact ⟨v, by simpa using h1, h2⟩
/-- slots of another kind over the same heap -/
theorem Rel.slots {ρ' : List S} {σ' : L2.St} (r : Rel B ca ρ cs Hf σ H) (hl : σ'.length = ρ'.length) (h : ∀ (i : Nat) (s : S), ρ'[i]? = some s → s = .no ∨ ∃ v, σ'[i]? = some (some v) ∧ SvOk ca Hf s v) : Rel B ca ρ' cs Hf σ' H :=
  ⟨r.ext, hl, h, r.cells, r.lenc, r.nd, r.off, r.exb, r.dis⟩
/-- the slots of an earlier state -/
theorem Rel.back {ρ' : List S} {σ' : L2.St} {cs0 : Store} (r0 : Rel B ca ρ' cs0 Hf σ' H) (x : Nx ca Hf ca' Hf') (r : Rel B ca' ρ cs' Hf' σ H') : Rel B ca' ρ' cs' Hf' σ' H' :=
  r.slots r0.len fun i s e => by
    rcases r0.sl i s e with z | ⟨v, h1, h2⟩
    · exact .inl z
    · exact .inr ⟨v, h1, h2.nx x⟩
theorem Rel.get (r : Rel B ca ρ cs Hf σ H) {i : Nat} {s : S} (e : ρ[i]? = some s) (n : s ≠ .no) : ∃ v, σ[i]? = some (some v) ∧ SvOk ca Hf s v := by
  rcases r.sl i s e with z | z
  · exact absurd z n
  · exact z
theorem Rel.set (r : Rel B ca ρ cs Hf σ H) (i : Nat) (h : SvOk ca Hf s v) : Rel B ca (ρ.set i s) cs Hf (σ.set i (some v)) H :=
  r.slots (by simp [r.len]) fun j t e => by
    by_cases hj : i = j
    · subst hj
      by_cases hi : i < ρ.length
      · rw [List.getElem?_set_self hi] at e
        cases e
        exact .inr ⟨v, List.getElem?_set_self (by rw [r.len]; exact hi), h⟩
      · rw [List.getElem?_eq_none (by simpa using hi)] at e; cases e
    · rw [List.getElem?_set_ne hj] at e
      rcases r.sl j t e with z | ⟨w, h1, h2⟩
      · exact .inl z
      · exact .inr ⟨w, by rw [List.getElem?_set_ne hj]; exact h1, h2⟩
/-- a slot forgotten -/
theorem Rel.lose (r : Rel B ca ρ cs Hf σ H) (i : Nat) (x : Option V) : Rel B ca (ρ.set i .no) cs Hf (σ.set i x) H :=
  r.slots (by simp [r.len]) fun j t e => by
    by_cases hj : i = j
    · subst hj
      by_cases hi : i < ρ.length
      · rw [List.getElem?_set_self hi] at e; cases e; exact .inl rfl
      · rw [List.getElem?_eq_none (by simpa using hi)] at e; cases e
    · rw [List.getElem?_set_ne hj] at e
      rcases r.sl j t e with z | ⟨w, h1, h2⟩
      · exact .inl z
      · exact .inr ⟨w, by rw [List.getElem?_set_ne hj]; exact h1, h2⟩
/-- an object of the heap is frozen -/
theorem Rel.freeze {o : HO} {p : Addr} (r : Rel B ca ρ cs Hf σ H) (hp : H p = some o) (n : Hf p = none) (hc : p ∉ ca) (hb : B p = none) : Rel B ca ρ cs (upd Hf p o) σ H ∧ Ex Hf (upd Hf p o) := by
  have e : Ex Hf (upd Hf p o) := fun a u h => by
    by_cases q : a = p
    · subst q; rw [n] at h; cases h
    · rw [upd_ne q]; exact h
  refine ⟨⟨fun a u h => ?_, r.len, fun i s q => ?_, fun j u q => ?_, r.lenc, r.nd, fun a m => ?_, r.exb, fun a m => ?_⟩, e⟩
  · by_cases q : a = p
    · subst q; rw [upd_same] at h; cases h; exact hp
    · rw [upd_ne q] at h; exact r.ext a u h
  · rcases r.sl i s q with z | ⟨v, h1, h2⟩
    · exact .inl z
    · exact .inr ⟨v, h1, h2.nx ⟨List.prefix_refl _, e⟩⟩
  · obtain ⟨a, h1, h2⟩ := r.cells j u q
    exact ⟨a, h1, h2.at rfl e⟩
  · rw [upd_ne (fun (z : a = p) => hc (z ▸ m))]; exact r.off a m
  · obtain ⟨h1, h2⟩ := r.dis a m
    exact ⟨by rw [upd_ne (fun (z : a = p) => m (z ▸ hb))]; exact h1, h2⟩
theorem Rel.newIn (r : Rel B ca ρ cs Hf σ H) {p : Addr} (hp : H p = none) : Hf p = none ∧ p ∉ ca ∧ B p = none := by
  refine ⟨?_, fun m => r.there m hp, ?_⟩
  · cases q : Hf p with
    | none => rfl
    | some u => rw [r.ext p u q] at hp; cases hp
  · cases q : B p with
    | none => rfl
    | some u => rw [r.exb p u q] at hp; cases hp
/-- the heap grows -/
theorem Rel.grow (r : Rel B ca ρ cs Hf σ H) (e : Ex H H') : Rel B ca ρ cs Hf σ H' :=
  ⟨fun a u h => e a u (r.ext a u h), r.len, r.sl, fun j u q => by
    obtain ⟨a, h1, h2⟩ := r.cells j u q
    refine ⟨a, h1, h2.at ?_ fun _ _ h => h⟩
    cases z : H a with
    | none => exact absurd z h2.some
    | some w => exact e a w z, r.lenc, r.nd, r.off, fun a u h => e a u (r.exb a u h), r.dis⟩
theorem ex_new {o : HO} {p : Addr} (hp : H p = none) : Ex H (upd H p o) := fun a u h => by rw [upd_ne (ne_of_none h hp)]; exact h
/-- a new object, frozen -/
theorem Rel.news {o : HO} {p : Addr} (r : Rel B ca ρ cs Hf σ H) (hp : H p = none) : Rel B ca ρ cs (upd Hf p o) σ (upd H p o) ∧ Nx ca Hf ca (upd Hf p o) := by
  obtain ⟨n1, n2, n3⟩ := r.newIn hp
  obtain ⟨r2, e2⟩ := (r.grow (ex_new (o := o) hp)).freeze (p := p) (o := o) upd_same n1 n2 n3
  exact ⟨r2, List.prefix_refl _, e2⟩
/-- an own object is frozen -/
theorem Rel.own {xs : List D} (r : Rel B ca ρ cs Hf σ H) (h : RvOk B ca Hf H (.own (.lst xs)) v) : ∃ Hf', Rel B ca ρ cs Hf' σ H ∧ Nx ca Hf ca Hf' ∧ Dd Hf' v (.list xs) := by
  obtain ⟨a, rfl, ⟨vs, h1, h2⟩, h3, h4, h5⟩ := h
  obtain ⟨r', e⟩ := r.freeze h1 h3 h4 h5
  exact ⟨_, r', ⟨List.prefix_refl _, e⟩, .lst (.inl upd_same) (dps_ex e h2)⟩
/-- an own object becomes a cell -/
theorem Rel.alloc (r : Rel B ca ρ cs Hf σ H) (h : RvOk B ca Hf H (.own o) v) : ∃ a, v = .ref a ∧ Rel B (ca ++ [a]) ρ (cs ++ [o]) Hf σ H ∧ (ca ++ [a])[cs.length]? = some a := by
  obtain ⟨a, rfl, h1, h2, h3, h4⟩ := h
  refine ⟨a, rfl, ⟨r.ext, r.len, fun i s q => ?_, fun j u q => ?_, by simp [r.lenc], ?_, fun b m => ?_, r.exb, fun b m => ?_⟩, by rw [← r.lenc]; simp⟩
  · rcases r.sl i s q with z | ⟨v, g1, g2⟩
    · exact .inl z
    · exact .inr ⟨v, g1, g2.nx ⟨List.prefix_append _ _, fun _ _ h => h⟩⟩
  · by_cases hj : j < cs.length
    · rw [List.getElem?_append_left hj] at q
      obtain ⟨b, g1, g2⟩ := r.cells j u q
      exact ⟨b, by rw [List.getElem?_append_left (by rw [r.lenc]; exact hj)]; exact g1, g2⟩
    · have hj2 : j = cs.length := by
        have := (List.getElem?_eq_some_iff.mp q).1
        simp at this; omega
      subst hj2
      simp at q; subst q
      exact ⟨a, by rw [← r.lenc]; simp, h1⟩
  · rw [List.nodup_append]
    refine ⟨r.nd, by simp, fun x hx y hy => ?_⟩
    simp at hy; subst hy
    exact fun z => h3 (z ▸ hx)
  · rcases List.mem_append.mp m with z | z
    · exact r.off b z
    · simp at z; subst z; exact h2
  · obtain ⟨g1, g2⟩ := r.dis b m
    refine ⟨g1, fun q => ?_⟩
    rcases List.mem_append.mp q with z | z
    · exact g2 z
    · simp at z; subst z; exact m h4
/-- a cell is written -/
theorem Rel.write {j : Nat} {u : HO} (r : Rel B ca ρ cs Hf σ H) (hj : ca[j]? = some a) (h : CellOk Hf (upd H a u) a o) : Rel B ca ρ (cs.set j o) Hf σ (upd H a u) := by
  have ma : a ∈ ca := List.mem_of_getElem? hj
  refine ⟨fun b w q => ?_, r.len, r.sl, fun i w q => ?_, by simp [r.lenc], r.nd, r.off, fun b w q => ?_, r.dis⟩
  · by_cases e : b = a
    · subst e; rw [r.off b ma] at q; cases q
    · rw [upd_ne e]; exact r.ext b w q
  · by_cases e : j = i
    · subst e
      have hi : j < cs.length := by rw [← r.lenc]; exact (List.getElem?_eq_some_iff.mp hj).1
      rw [List.getElem?_set_self hi] at q
      cases q
      exact ⟨a, hj, h⟩
    · rw [List.getElem?_set_ne e] at q
      obtain ⟨b, g1, g2⟩ := r.cells i w q
      refine ⟨b, g1, g2.at (upd_ne ?_) fun _ _ h => h⟩
      intro z
      subst z
      exact e (nd_ix r.nd hj g1)
  · by_cases e : b = a
    · subst e
      exact absurd ma (r.dis b (by rw [q]; simp)).2
    · rw [upd_ne e]; exact r.exb b w q
theorem Rel.cell (r : Rel B ca ρ cs Hf σ H) {j : Nat} (e : cs[j]? = some o) (h : ca[j]? = some a) : CellOk Hf H a o := by
  obtain ⟨b, g1, g2⟩ := r.cells j o e
  rw [h] at g1; cases g1; exact g2
end

/-! ### what is wanted of an expression's result -/
section
variable (X : Cx) (W : WX)
def Gs {α : Type} (B : Hp) (ca : List Addr) (Hf : Hp) (ρ : List S) (σ : L2.St) (res : Res α) (P : List Addr → Hp → Hp → Store → α → Prop) : Prop :=
  match res with
  | .ok a cs' => ∀ ca' Hf' H', Nx ca Hf ca' Hf' → Rel B ca' ρ cs' Hf' σ H' → P ca' Hf' H' cs' a
  | .er c cs' => ∀ ca' Hf' H' cls, Nx ca Hf ca' Hf' → Rel B ca' ρ cs' Hf' σ H' → X.mg c = some cls → W cls none σ H'
  | .no => False
/-- an expression -/
def DE (e : Expr) (f : List S → M S) : Prop := ∃ t : TE, PE X e t ∧ ∀ (B : Hp) (ca : List Addr) (ρ : List S) (cs : Store) (Hf : Hp) (σ : L2.St) (H : Hp) (Q : VK), Rel B ca ρ cs Hf σ H →
  Gs X W B ca Hf ρ σ (f ρ cs) (fun ca' Hf' H' _ s => ∀ v, SvOk ca' Hf' s v → Q v H') → t σ H Q
/-- an expression whose value may be a new object -/
def DO (e : Expr) (f : List S → M Rv) : Prop := ∃ t : TE, PE X e t ∧ ∀ (B : Hp) (ca : List Addr) (ρ : List S) (cs : Store) (Hf : Hp) (σ : L2.St) (H : Hp) (Q : VK), Rel B ca ρ cs Hf σ H →
  Gs X W B ca Hf ρ σ (f ρ cs) (fun ca' Hf' H' _ r => ∀ v, RvOk B ca' Hf' H' r v → Q v H') → t σ H Q
def DT (e : Expr) (f : List S → M Bool) : Prop := ∃ t : TT, PT X e t ∧ ∀ (B : Hp) (ca : List Addr) (ρ : List S) (cs : Store) (Hf : Hp) (σ : L2.St) (H : Hp) (Q : Bool → Hp → Prop), Rel B ca ρ cs Hf σ H →
  Gs X W B ca Hf ρ σ (f ρ cs) (fun _ _ H' _ b => Q b H') → t σ H Q
def DW (e : Expr) (f : List S → M Bool) : Prop := ∃ t : TT, PW X e t ∧ ∀ (B : Hp) (ca : List Addr) (ρ : List S) (cs : Store) (Hf : Hp) (σ : L2.St) (H : Hp) (Q : Bool → Hp → Prop), Rel B ca ρ cs Hf σ H →
  Gs X W B ca Hf ρ σ (f ρ cs) (fun _ _ H' _ b => Q b H') → t σ H Q
def DA (es : List Expr) (f : List S → M (List S)) : Prop := ∃ t : TA, PA X es t ∧ ∀ (B : Hp) (ca : List Addr) (ρ : List S) (cs : Store) (Hf : Hp) (σ : L2.St) (H : Hp) (Q : List V → Hp → Prop), Rel B ca ρ cs Hf σ H →
  Gs X W B ca Hf ρ σ (f ρ cs) (fun ca' Hf' H' _ ss => ∀ vs, SvsOk ca' Hf' ss vs → Q vs H') → t σ H Q
end
section
variable {X : Cx} {W : WX} {B : Hp} {ca : List Addr} {Hf H : Hp} {ρ : List S} {σ : L2.St} {cs : Store} {α β : Type} {P P' : List Addr → Hp → Hp → Store → α → Prop}
theorem Gs.mono {res : Res α} (h : Gs X W B ca Hf ρ σ res P) (m : ∀ ca' Hf' H' cs' a, Nx ca Hf ca' Hf' → Rel B ca' ρ cs' Hf' σ H' → P ca' Hf' H' cs' a → P' ca' Hf' H' cs' a) : Gs X W B ca Hf ρ σ res P' := by
  cases res with
  | ok a cs' => exact fun ca' Hf' H' n r => m _ _ _ _ _ n r (h ca' Hf' H' n r)
  | er c cs' => exact h
  | no => exact h
theorem Gs.fwd {res : Res α} {ca1 : List Addr} {Hf1 : Hp} (h : Gs X W B ca Hf ρ σ res P) (n : Nx ca Hf ca1 Hf1) : Gs X W B ca1 Hf1 ρ σ res P := by
  cases res with
  | ok a cs' => exact fun ca' Hf' H' n' r => h ca' Hf' H' (n.trans n') r
  | er c cs' => exact fun ca' Hf' H' cls n' r => h ca' Hf' H' cls (n.trans n') r
  | no => exact h
theorem Gs.bind {m : M α} {k : α → M β} {P : List Addr → Hp → Hp → Store → β → Prop} (h : Gs X W B ca Hf ρ σ (bnd m k cs) P) :
    Gs X W B ca Hf ρ σ (m cs) (fun ca1 Hf1 _ cs1 a => Gs X W B ca1 Hf1 ρ σ (k a cs1) P) := by
  unfold bnd at h
  cases e : m cs with
  | ok a cs1 => rw [e] at h; exact fun ca1 Hf1 H1 n r => Gs.fwd h n
  | er c cs1 => rw [e] at h; exact h
  | no => rw [e] at h; exact h
theorem Gs.ret_ {a : α} (h : Gs X W B ca Hf ρ σ (ret a cs) P) (r : Rel B ca ρ cs Hf σ H) : P ca Hf H cs a := h ca Hf H Nx.refl r
theorem Gs.ofO_ {o : Option α} (h : Gs X W B ca Hf ρ σ (ofO o cs) P) (r : Rel B ca ρ cs Hf σ H) : ∃ a, o = some a ∧ P ca Hf H cs a := by
  cases o with
  | none => exact h.elim
  | some a => exact ⟨a, rfl, h ca Hf H Nx.refl r⟩
end
end Dn

set_option Elab.async false
set_option linter.all false
set_option maxRecDepth 100000
set_option maxHeartbeats 1000000
/-! Dn2: expressions. -/
namespace Dn
open PySem L2

/-! ### views of operands -/
def Lv (Hf H : Hp) (v : V) (d : D) : Prop := Dd H v d ∧ match d with
  | .list xs => ∃ a vs, v = .ref a ∧ Rd H a (.lst vs) ∧ Dds Hf vs xs
  | .tuple xs => (∃ a vs, v = .ref a ∧ Rd H a (.tup vs) ∧ Dds Hf vs xs) ∧ Dd Hf v d
  | _ => Dd Hf v d
def vw : S → Store → Option D
  | .d x, _ => some x
  | .cel j, cs => match cs[j]? with
    | some (.lst xs) => some (.list xs)
    | _ => none
  | _, _ => none
def vwM (s : S) : M D := fun cs => match vw s cs with
  | some d => .ok d cs
  | none => .no
section
variable {B : Hp} {ca ca' : List Addr} {ρ : List S} {cs : Store} {Hf Hf' : Hp} {σ : L2.St} {H H' : Hp} {s : S} {v w : V} {d : D} {o : OC}
theorem Lv.of (e : Ex Hf H) (h : Dd Hf v d) : Lv Hf H v d := by
  refine ⟨dp_ex e h, ?_⟩
  cases h with
  | lst h a => exact ⟨_, _, rfl, rd_ex e h, a⟩
  | tup h a => exact ⟨⟨_, _, rfl, rd_ex e h, a⟩, .tup h a⟩
  | non => exact .non
  | bl b => exact .bl b
  | int i => exact .int i
  | str x => exact .str x
theorem vw_ok (r : Rel B ca ρ cs Hf σ H) (h : SvOk ca Hf s v) (e : vw s cs = some d) : Lv Hf H v d := by
  cases s with
  | no => exact h.elim
  | fn a => cases e
  | d x =>
    have : x = d := Option.some.inj e
    subst this
    exact Lv.of r.ext h
  | cel j =>
    obtain ⟨a, h1, rfl⟩ := h
    have e' : (match cs[j]? with
      | some (.lst xs) => some (.list xs)
      | _ => none) = some d := e
    split at e'
    · rename_i xs q
      cases e'
      obtain ⟨vs, g1, g2⟩ := r.cell q h1
      exact ⟨.lst (.inl g1) (dps_ex r.ext g2), a, vs, rfl, .inl g1, g2⟩
    · cases e'
theorem Lv.flat (h : Lv Hf H v d) (n : ∀ xs, d ≠ .list xs) : Dd Hf v d := by
  obtain ⟨_, h⟩ := h
  cases d with
  | list xs => exact absurd rfl (n xs)
  | tuple xs => exact h.2
  | _ => exact h
theorem Lv.lst {xs : List D} (h : Lv Hf H v (.list xs)) : ∃ a vs, v = .ref a ∧ Rd H a (.lst vs) ∧ Dds Hf vs xs := h.2
theorem Lv.tup {xs : List D} (h : Lv Hf H v (.tuple xs)) : ∃ a vs, v = .ref a ∧ Rd H a (.tup vs) ∧ Dds Hf vs xs := h.2.1
theorem Lv.int_ {i : Int} (h : Lv Hf H v (.int i)) : v = .int i := by cases h.1; rfl
theorem Lv.str_ {x : Str} (h : Lv Hf H v (.str x)) : v = .str x := by cases h.1; rfl
theorem Lv.bl_ {x : Bool} (h : Lv Hf H v (.bool x)) : v = .bl x := by cases h.1; rfl
theorem Lv.non_ (h : Lv Hf H v .none) : v = .non := by cases h.1; rfl

/-- the heap grows by frozen things -/
structure Gw (Hf H Hf' H' : Hp) : Prop where
  ex : Ex Hf Hf'
  kp : Ex H H'
  ext : Ex Hf' H'
  nhf : ∀ a, Hf' a ≠ none → Hf a ≠ none ∨ H a = none
theorem Gw.refl (e : Ex Hf H) : Gw Hf H Hf H := ⟨fun _ _ h => h, fun _ _ h => h, e, fun _ h => .inl h⟩
theorem Gw.new {o : HO} {p : Addr} (e : Ex Hf H) (hp : H p = none) : Gw Hf H (upd Hf p o) (upd H p o) := by
  have nf : Hf p = none := by
    cases q : Hf p with
    | none => rfl
    | some u => rw [e p u q] at hp; cases hp
  refine ⟨ex_new nf, ex_new hp, fun a u h => ?_, fun a h => ?_⟩
  · by_cases q : a = p
    · subst q; rw [upd_same] at h ⊢; exact h
    · rw [upd_ne q] at h ⊢; exact e a u h
  · by_cases q : a = p
    · exact .inr (q ▸ hp)
    · rw [upd_ne q] at h; exact .inl h
theorem Rel.gw (r : Rel B ca ρ cs Hf σ H) (g : Gw Hf H Hf' H') : Rel B ca ρ cs Hf' σ H' ∧ Nx ca Hf ca Hf' := by
  have n : Nx ca Hf ca Hf' := ⟨List.prefix_refl _, g.ex⟩
  have no : ∀ a, H a ≠ none → Hf a = none → Hf' a = none := fun a h1 h2 => by
    cases q : Hf' a with
    | none => rfl
    | some u =>
      rcases g.nhf a (by rw [q]; simp) with z | z
      · exact absurd h2 z
      · exact absurd z h1
  refine ⟨⟨g.ext, r.len, fun i s q => ?_, fun j u q => ?_, r.lenc, r.nd, fun a m => no a (r.there m) (r.off a m), fun a u h => g.kp a u (r.exb a u h), fun a m => ?_⟩, n⟩
  · rcases r.sl i s q with z | ⟨v, h1, h2⟩
    · exact .inl z
    · exact .inr ⟨v, h1, h2.nx n⟩
  · obtain ⟨a, h1, h2⟩ := (r.grow g.kp).cells j u q
    exact ⟨a, h1, h2.at rfl g.ex⟩
  · obtain ⟨h1, h2⟩ := r.dis a m
    refine ⟨no a ?_ h1, h2⟩
    cases q : B a with
    | none => exact absurd q m
    | some u => rw [r.exb a u q]; simp
end

/-! ### operators over data -/
def rD (g : D → D → Option D) : R2 := fun x y H Q => ∃ Hf da db d, g da db = some d ∧ Ex Hf H ∧ Lv Hf H x da ∧ Lv Hf H y db ∧ ∀ v Hf' H', Gw Hf H Hf' H' → Dd Hf' v d → Q v H'
def rDb (g : D → D → Option Bool) : R2 := fun x y H Q => ∃ Hf da db b, g da db = some b ∧ Ex Hf H ∧ Lv Hf H x da ∧ Lv Hf H y db ∧ Q (.bl b) H
def addD : D → D → Option D
  | .int i, .int j => some (.int (i + j))
  | .str x, .str y => if x.length + y.length ≤ sizeLine then some (.str (x ++ y)) else none
  | .tuple xs, .tuple ys => if xs.length + ys.length ≤ sizeLine then some (.tuple (xs ++ ys)) else none
  | .list xs, .list ys => if xs.length + ys.length ≤ sizeLine then some (.list (xs ++ ys)) else none
  | _, _ => none
def subD : D → D → Option D
  | .int i, .int j => some (.int (i - j))
  | _, _ => none
def mulD : D → D → Option D
  | .int i, .int j => if i.natAbs.log2 + j.natAbs.log2 < 1000000 then some (.int (i * j)) else none
  | _, _ => none
def fdivD : D → D → Option D
  | .int i, .int j => if 0 < j ∧ j.natAbs.log2 < 9000 then some (.int (i / j)) else none
  | _, _ => none
def modD : D → D → Option D
  | .int i, .int j => if 0 < j then some (.int (i % j)) else none
  | _, _ => none
def powD : D → D → Option D
  | .int i, .int j => if 0 ≤ j ∧ j ≤ 1000000 ∧ i.natAbs < 2 ^ 64 then some (.int (i ^ j.toNat)) else none
  | _, _ => none
def scalD : D → D → Bool
  | .none, .none => true | .none, .int _ => true | .int _, .none => true | .none, .bool _ => true | .bool _, .none => true | .none, .str _ => true | .str _, .none => true
  | .int _, .int _ => true | .bool _, .bool _ => true | .str _, .str _ => true
  | .int _, .str _ => true | .str _, .int _ => true | .bool _, .str _ => true | .str _, .bool _ => true
  | _, _ => false
def eqD (a b : D) : Option Bool := if scalD a b || (SeqAt.shaped a && SeqAt.shaped b) then some (PyData.eqv a b) else none
def neD (a b : D) : Option Bool := (eqD a b).map (!·)
def ltD : D → D → Option Bool
  | .int i, .int j => some (decide (i < j))
  | .str x, .str y => some (decide (x.cps.toList < y.cps.toList))
  | _, _ => none
def leD : D → D → Option Bool
  | .int i, .int j => some (decide (i ≤ j))
  | _, _ => none
def gtD : D → D → Option Bool
  | .int i, .int j => some (decide (j < i))
  | _, _ => none
def geD : D → D → Option Bool
  | .int i, .int j => some (decide (j ≤ i))
  | _, _ => none
def flatD : D → Bool
  | .none => true | .bool _ => true | .int _ => true | .str _ => true
  | _ => false
def inD (x : D) : D → Option Bool
  | .list ys => if flatD x && ys.all flatD || (SeqAt.shaped x && SeqAt.shaped (.list ys)) then some (ys.any fun y => PyData.eqv y x) else none
  | .tuple ys => if flatD x && ys.all flatD then some (ys.any fun y => PyData.eqv y x) else none
  | .str z => match x with
    | .str c => if c.length = 1 then some (decide (c.cps.getD 0 0 ∈ z.cps.toList)) else none
    | _ => none
  | _ => none
def ninD (x ys : D) : Option Bool := (inD x ys).map (!·)
def isnD : D → Option Bool
  | .none => some true
  | _ => some false
def lenD : D → Option Nat
  | .str x => if x.length ≤ sizeLine then some x.length else none
  | .list xs => some xs.length
  | .tuple xs => some xs.length
  | _ => none
def ixD : D → D → Option D
  | .list xs, .int i => atI xs i
  | .tuple xs, .int i => atI xs i
  | .str z, .int i => if z.length ≤ sizeLine then (atI z.cps.toList i).map fun c => .str ⟨#[c]⟩ else none
  | _, _ => none
def truD : D → Option Bool
  | .none => some false
  | .bool b => some b
  | .int i => some (i != 0)
  | .str x => if x.length ≤ sizeLine then some (x.length != 0) else none
  | .list xs => some (!xs.isEmpty)
  | .tuple xs => some (!xs.isEmpty)
  | .dict _ => none
def cutD (xs : List D) (lo hi : Option Int) : List D := (xs.drop (HT.sIx xs.length 0 lo)).take (HT.sIx xs.length xs.length hi - HT.sIx xs.length 0 lo)
/-- the types' names -/
def tyD : D → String
  | .none => "NoneType" | .bool _ => "bool" | .int _ => "int" | .str _ => "str" | .list _ => "list" | .tuple _ => "tuple" | .dict _ => "dict"
def isaD (T : String) : D → Bool
  | .none => T == "NoneType" | .bool _ => T == "bool" || T == "int" | .int _ => T == "int" | .str _ => T == "str" | .list _ => T == "list" | .tuple _ => T == "tuple" | .dict _ => T == "dict"

section
variable {X : Cx} {pins : List (Addr × Obj)} {σ : L2.St} {H Hf Hf' : Hp} {s : Shared} {l b : Addr} {xs ys zs : List V} {v : V} {d : D} {ds : List D}
theorem Inv.rdl (I : Inv X pins σ H s) (h : Rd H l (.lst xs)) : xs.length ≤ sizeLine ∧ ∃ (its : List Value) (n : Nat), Vals xs its ∧ xs.length = its.length ∧ s.heap.get? l = some { cls := .type "list", data := .seq its.toArray n } := by
  obtain ⟨z, its, n, r, e⟩ := h.ok I.hok
  exact ⟨z, its, n, r, r.length, e⟩
theorem add_ok : OpR X (binaryOp .Add) (rD addD) := by
  intro pins s σ H x y v u Q I rx ry h
  obtain ⟨Hf, da, db, d, e, ex, ha, hb, q⟩ := h
  unfold addD at e
  split at e
  · cases e
    have := ha.int_; subst this
    have := hb.int_; subst this
    exact op_add pins s σ H _ _ v u Q I rx ry ⟨_, _, rfl, rfl, q _ _ _ (Gw.refl ex) (.int _)⟩
  · split at e
    · cases e
      have := ha.str_; subst this
      have := hb.str_; subst this
      exact op_add_str pins s σ H _ _ v u Q I rx ry ⟨_, _, rfl, rfl, by assumption, q _ _ _ (Gw.refl ex) (.str _)⟩
    · cases e
  · rename_i ds es
    split at e
    · rename_i hz
      cases e
      obtain ⟨a, vs, rfl, h1, h2⟩ := ha.tup
      obtain ⟨a', vs', rfl, h1', h2'⟩ := hb.tup
      have l1 := dps_len h2
      have l2 := dps_len h2'
      refine op_catA pins s σ H _ _ v u Q I rx ry ⟨a, a', vs, vs', rfl, rfl, .inl h1, .inl h1', by omega, fun z => ?_, fun z z' => ?_, fun z z' p hp => ?_⟩
      · have : ds = [] := by rw [z] at l1; exact List.length_eq_zero_iff.mp l1.symm
        subst this
        exact q _ _ _ (Gw.refl ex) (hb.flat fun _ z => nomatch z)
      · have : es = [] := by rw [z'] at l2; exact List.length_eq_zero_iff.mp l2.symm
        subst this
        rw [List.append_nil] at q
        exact q _ _ _ (Gw.refl ex) (ha.flat fun _ z => nomatch z)
      · have g := Gw.new (o := .tup (vs ++ vs')) ex hp
        exact q _ _ _ g (.tup (.inl upd_same) (dps_ex g.ex (dps_app h2 h2')))
    · cases e
  · rename_i ds es
    split at e
    · rename_i hz
      cases e
      obtain ⟨a, vs, rfl, h1, h2⟩ := ha.lst
      obtain ⟨a', vs', rfl, h1', h2'⟩ := hb.lst
      cases rx
      cases ry
      have l1 := dps_len h2
      have l2 := dps_len h2'
      obtain ⟨z, its, n, r, hl, e⟩ := Inv.rdl I h1
      obtain ⟨z2, its2, n2, r2, hl2, e2⟩ := Inv.rdl I h1'
      refine PySem.P.add_list e e2 ?_ (by rw [List.size_toArray, List.size_toArray]; omega)
      have ea : its.toArray ++ its2.toArray = (its ++ its2).toArray := by simp
      rw [ea]
      have g := Gw.new (o := .lst (vs ++ vs')) ex I.fresh
      exact ⟨.ref _, _, I.lnew (t' := s.toks) (r.append r2) (by rw [List.length_append]; omega), rfl, q _ _ _ g (.lst (.inl upd_same) (dps_ex g.ex (dps_app h2 h2')))⟩
    · cases e
  · cases e
theorem sub_ok : OpR X (binaryOp .Sub) (rD subD) := by
  intro pins s σ H x y v u Q I rx ry h
  obtain ⟨Hf, da, db, d, e, ex, ha, hb, q⟩ := h
  unfold subD at e
  split at e
  · cases e
    have := ha.int_; subst this
    have := hb.int_; subst this
    exact op_sub pins s σ H _ _ v u Q I rx ry ⟨_, _, rfl, rfl, q _ _ _ (Gw.refl ex) (.int _)⟩
  · cases e
theorem mul_ok : OpR X (binaryOp .Mult) (rD mulD) := by
  intro pins s σ H x y v u Q I rx ry h
  obtain ⟨Hf, da, db, d, e, ex, ha, hb, q⟩ := h
  unfold mulD at e
  split at e
  · split at e
    · cases e
      have := ha.int_; subst this
      have := hb.int_; subst this
      exact op_mulW pins s σ H _ _ v u Q I rx ry ⟨_, _, rfl, rfl, by assumption, q _ _ _ (Gw.refl ex) (.int _)⟩
    · cases e
  · cases e
theorem fdiv_ok : OpR X (binaryOp .FloorDiv) (rD fdivD) := by
  intro pins s σ H x y v u Q I rx ry h
  obtain ⟨Hf, da, db, d, e, ex, ha, hb, q⟩ := h
  unfold fdivD at e
  split at e
  · split at e
    · cases e
      have := ha.int_; subst this
      have := hb.int_; subst this
      exact op_fdivW pins s σ H _ _ v u Q I rx ry ⟨_, _, rfl, rfl, by assumption, q _ _ _ (Gw.refl ex) (.int _)⟩
    · cases e
  · cases e
theorem mod_ok : OpR X (binaryOp .Mod) (rD modD) := by
  intro pins s σ H x y v u Q I rx ry h
  obtain ⟨Hf, da, db, d, e, ex, ha, hb, q⟩ := h
  unfold modD at e
  split at e
  · split at e
    · cases e
      have := ha.int_; subst this
      have := hb.int_; subst this
      exact op_mod pins s σ H _ _ v u Q I rx ry ⟨_, _, rfl, rfl, by assumption, q _ _ _ (Gw.refl ex) (.int _)⟩
    · cases e
  · cases e
theorem pow_ok : OpR X (binaryOp .Pow) (rD powD) := by
  intro pins s σ H x y v u Q I rx ry h
  obtain ⟨Hf, da, db, d, e, ex, ha, hb, q⟩ := h
  unfold powD at e
  split at e
  · split at e
    · cases e
      have := ha.int_; subst this
      have := hb.int_; subst this
      exact op_pow pins s σ H _ _ v u Q I rx ry ⟨_, _, rfl, rfl, by assumption, q _ _ _ (Gw.refl ex) (.int _)⟩
    · cases e
  · cases e

/-! ### comparisons -/
theorem scal_eq {x y : V} {da db : D} (h : scalD da db = true) (ha : Dd H x da) (hb : Dd H y db) : scal x y = true ∧ decide (x = y) = PyData.eqv da db := by
  cases ha <;> cases hb <;> first
    | (exact absurd (show false = true from h) Bool.false_ne_true)
    | (refine ⟨rfl, ?_⟩; rw [PyData.eqv]; first | exact dec_int | exact dec_bl | exact dec_str)
    | (refine ⟨rfl, ?_⟩; simp [PyData.eqv]; done)
theorem eq_ok (hu : X.A.units + 64 < cLine) : OpR X (compareOp .Eq) (rDb eqD) := by
  intro pins s σ H x y v u Q I rx ry h
  obtain ⟨Hf, da, db, d, e, ex, ha, hb, q⟩ := h
  unfold eqD at e
  split at e
  · rename_i hs
    cases e
    by_cases hc : scalD da db = true
    · obtain ⟨s1, s2⟩ := scal_eq hc ha.1 hb.1
      exact op_eq pins s σ H x y v u Q I rx ry ⟨s1, by rw [s2]; exact q⟩
    · rw [Bool.or_eq_true, Bool.and_eq_true] at hs
      rcases hs with z | ⟨z1, z2⟩
      · exact absurd z hc
      · exact op_eqD hu pins s σ H x y v u Q I rx ry ⟨da, db, dd_dp _ ha.1, dd_dp _ hb.1, z1, z2, q⟩
  · cases e
theorem ne_ok (hu : X.A.units + 64 < cLine) : OpR X (compareOp .NotEq) (rDb neD) := by
  intro pins s σ H x y v u Q I rx ry h
  obtain ⟨Hf, da, db, d, e, ex, ha, hb, q⟩ := h
  unfold neD eqD at e
  split at e
  · rename_i hs
    cases e
    by_cases hc : scalD da db = true
    · obtain ⟨s1, s2⟩ := scal_eq hc ha.1 hb.1
      exact op_ne pins s σ H x y v u Q I rx ry ⟨s1, by rw [s2]; exact q⟩
    · rw [Bool.or_eq_true, Bool.and_eq_true] at hs
      rcases hs with z | ⟨z1, z2⟩
      · exact absurd z hc
      · exact op_neD hu pins s σ H x y v u Q I rx ry ⟨da, db, dd_dp _ ha.1, dd_dp _ hb.1, z1, z2, q⟩
  · cases e
theorem lt_ok : OpR X (compareOp .Lt) (rDb ltD) := by
  intro pins s σ H x y v u Q I rx ry h
  obtain ⟨Hf, da, db, d, e, ex, ha, hb, q⟩ := h
  unfold ltD at e
  split at e
  · cases e
    have := ha.int_; subst this
    have := hb.int_; subst this
    exact op_lt pins s σ H _ _ v u Q I rx ry ⟨_, _, rfl, rfl, q⟩
  · cases e
    have := ha.str_; subst this
    have := hb.str_; subst this
    exact op_lt_str pins s σ H _ _ v u Q I rx ry ⟨_, _, rfl, rfl, q⟩
  · cases e
theorem le_ok : OpR X (compareOp .LtE) (rDb leD) := by
  intro pins s σ H x y v u Q I rx ry h
  obtain ⟨Hf, da, db, d, e, ex, ha, hb, q⟩ := h
  unfold leD at e
  split at e
  · cases e
    have := ha.int_; subst this
    have := hb.int_; subst this
    exact op_le pins s σ H _ _ v u Q I rx ry ⟨_, _, rfl, rfl, q⟩
  · cases e
theorem gt_ok : OpR X (compareOp .Gt) (rDb gtD) := by
  intro pins s σ H x y v u Q I rx ry h
  obtain ⟨Hf, da, db, d, e, ex, ha, hb, q⟩ := h
  unfold gtD at e
  split at e
  · cases e
    have := ha.int_; subst this
    have := hb.int_; subst this
    exact op_gt pins s σ H _ _ v u Q I rx ry ⟨_, _, rfl, rfl, q⟩
  · cases e
theorem ge_ok : OpR X (compareOp .GtE) (rDb geD) := by
  intro pins s σ H x y v u Q I rx ry h
  obtain ⟨Hf, da, db, d, e, ex, ha, hb, q⟩ := h
  unfold geD at e
  split at e
  · cases e
    have := ha.int_; subst this
    have := hb.int_; subst this
    exact op_ge pins s σ H _ _ v u Q I rx ry ⟨_, _, rfl, rfl, q⟩
  · cases e
theorem flat_V (f : flatD d = true) (h : Dd H v d) : flatV v = true := by
  cases h <;> first | rfl | (exact absurd (show false = true from f) Bool.false_ne_true)
theorem eqV_eqv {x y : V} {da db : D} (fa : flatD da = true) (fb : flatD db = true) (ha : Dd H x da) (hb : Dd H y db) : eqV x y = PyData.eqv da db := by
  cases ha <;> cases hb <;> first
    | (exact absurd (show false = true from fa) Bool.false_ne_true)
    | (exact absurd (show false = true from fb) Bool.false_ne_true)
    | rfl
    | (unfold eqV; simp [PyData.eqv])
theorem flat_all : ∀ {xs : List V} {ds : List D}, ds.all flatD = true → Dds H xs ds → xs.all flatV = true
  | _, _, _, .nil => rfl
  | _, _, f, .cons h t => by
    rw [List.all_cons, Bool.and_eq_true] at f
    rw [List.all_cons, Bool.and_eq_true]
    exact ⟨flat_V f.1 h, flat_all f.2 t⟩
theorem inV_any {x : V} (fx : flatD d = true) (hx : Dd H x d) : ∀ {xs : List V} {ds : List D}, ds.all flatD = true → Dds H xs ds → inV x xs = ds.any fun y => PyData.eqv y d
  | _, _, _, .nil => rfl
  | _, _, f, .cons h t => by
    rw [List.all_cons, Bool.and_eq_true] at f
    have ih := inV_any fx hx f.2 t
    unfold inV at ih ⊢
    rw [List.any_cons, List.any_cons, ih, eqV_eqv f.1 fx h hx]
end
end Dn

set_option Elab.async false
set_option linter.all false
set_option maxRecDepth 100000
set_option maxHeartbeats 1000000
/-! Dn3: expressions' rules. -/
namespace Dn
open PySem L2
section
variable {X : Cx} {pins : List (Addr × Obj)} {σ : L2.St} {H Hf Hf' : Hp} {s : Shared} {v : V} {d : D}
theorem sign_of {c : Str} (h : c.length = 1) : c = ⟨#[c.cps.getD 0 0]⟩ := by
  obtain ⟨⟨l⟩⟩ := c
  match l, h with
  | [a], _ => rfl
  | [], h => exact absurd h (by decide)
  | a :: b :: r, h => exact absurd (show (a :: b :: r).length = 1 from h) (by simp)
theorem in_ok (hu : X.A.units + 65 < cLine) : OpR X (compareOp .In) (rDb inD) := by
  intro pins s σ H x y v u Q I rx ry h
  obtain ⟨Hf, da, db, d, e, ex, ha, hb, q⟩ := h
  unfold inD at e
  split at e
  · rename_i ys
    split at e
    · rename_i hs
      cases e
      obtain ⟨a, vs, rfl, h1, h2⟩ := hb.lst
      by_cases hf : (flatD da && ys.all flatD) = true
      · rw [Bool.and_eq_true] at hf
        have h2' := dps_ex ex h2
        refine op_in_seq pins s σ H _ _ v u Q I rx ry ⟨a, vs, rfl, .inl (.inl h1), flat_V hf.1 ha.1, flat_all hf.2 h2', ?_⟩
        show Q (.bl (inV x vs)) H
        rw [inV_any hf.1 ha.1 hf.2 h2']
        exact q
      · rw [Bool.or_eq_true] at hs
        rcases hs with z | z
        · exact absurd z hf
        · rw [Bool.and_eq_true] at z
          exact op_inD hu pins s σ H _ _ v u Q I rx ry ⟨da, ys, dd_dp _ ha.1, dd_dp _ hb.1, z.1, z.2, q⟩
    · cases e
  · rename_i ys
    split at e
    · rename_i hf
      cases e
      rw [Bool.and_eq_true] at hf
      obtain ⟨a, vs, rfl, h1, h2⟩ := hb.tup
      have h2' := dps_ex ex h2
      refine op_in_seq pins s σ H _ _ v u Q I rx ry ⟨a, vs, rfl, .inr (.inl h1), flat_V hf.1 ha.1, flat_all hf.2 h2', ?_⟩
      show Q (.bl (inV x vs)) H
      rw [inV_any hf.1 ha.1 hf.2 h2']
      exact q
    · cases e
  · split at e
    · rename_i c
      split at e
      · rename_i hc
        cases e
        have := ha.str_; subst this
        have := hb.str_; subst this
        exact op_in_sign pins s σ H _ _ v u Q I rx ry ⟨_, _, by rw [← sign_of hc], rfl, q⟩
      · cases e
    · cases e
  · cases e
theorem nin_ok (hu : X.A.units + 65 < cLine) : OpR X (compareOp .NotIn) (rDb ninD) := by
  intro pins s σ H x y v u Q I rx ry h
  obtain ⟨Hf, da, db, d, e, ex, ha, hb, q⟩ := h
  unfold ninD inD at e
  split at e
  · rename_i ys
    split at e
    · rename_i hs
      cases e
      obtain ⟨a, vs, rfl, h1, h2⟩ := hb.lst
      by_cases hf : (flatD da && ys.all flatD) = true
      · rw [Bool.and_eq_true] at hf
        have h2' := dps_ex ex h2
        refine op_notIn_seq pins s σ H _ _ v u Q I rx ry ⟨a, vs, rfl, .inl (.inl h1), flat_V hf.1 ha.1, flat_all hf.2 h2', ?_⟩
        show Q (.bl (!inV x vs)) H
        rw [inV_any hf.1 ha.1 hf.2 h2']
        exact q
      · rw [Bool.or_eq_true] at hs
        rcases hs with z | z
        · exact absurd z hf
        · rw [Bool.and_eq_true] at z
          exact op_notInD hu pins s σ H _ _ v u Q I rx ry ⟨da, ys, dd_dp _ ha.1, dd_dp _ hb.1, z.1, z.2, q⟩
    · cases e
  · rename_i ys
    split at e
    · rename_i hf
      cases e
      rw [Bool.and_eq_true] at hf
      obtain ⟨a, vs, rfl, h1, h2⟩ := hb.tup
      have h2' := dps_ex ex h2
      refine op_notIn_seq pins s σ H _ _ v u Q I rx ry ⟨a, vs, rfl, .inr (.inl h1), flat_V hf.1 ha.1, flat_all hf.2 h2', ?_⟩
      show Q (.bl (!inV x vs)) H
      rw [inV_any hf.1 ha.1 hf.2 h2']
      exact q
    · cases e
  · split at e
    · rename_i c
      split at e
      · rename_i hc
        cases e
        have := ha.str_; subst this
        have := hb.str_; subst this
        exact op_notIn_sign pins s σ H _ _ v u Q I rx ry ⟨_, _, by rw [← sign_of hc], rfl, q⟩
      · cases e
    · cases e
  · cases e
theorem ix_ok : IxR X (rD ixD) := by
  intro value slice pins s σ H x y v u Q I rx ry h hs
  obtain ⟨Hf, da, db, d, e, ex, ha, hb, q⟩ := h
  unfold ixD at e
  split at e
  · obtain ⟨a, vs, rfl, h1, h2⟩ := ha.lst
    have := hb.int_; subst this
    obtain ⟨j, g1, g2, g3, g4, g5⟩ := atI_get e
    obtain ⟨w, k1, k2⟩ := dps_get h2 g2
    refine ix_list value slice pins s σ H _ _ v u Q I rx ry ⟨a, vs, _, w, rfl, rfl, .inl h1, ?_, q _ _ _ (Gw.refl ex) k2⟩ hs
    unfold atI at e ⊢
    rw [dps_len h2]
    cases z : ixN _ _ with
    | none => rw [z] at e; cases e
    | some j' =>
      rw [z] at e
      have e' : _ = some d := e
      obtain ⟨hs', _⟩ := ixN_seq z
      rw [g1] at hs'; cases hs'
      exact k1
  · obtain ⟨a, vs, rfl, h1, h2⟩ := ha.tup
    have := hb.int_; subst this
    obtain ⟨j, g1, g2, g3, g4, g5⟩ := atI_get e
    obtain ⟨w, k1, k2⟩ := dps_get h2 g2
    refine ix_tup value slice pins s σ H _ _ v u Q I rx ry ⟨a, vs, _, w, rfl, rfl, .inl h1, ?_, q _ _ _ (Gw.refl ex) k2⟩ hs
    unfold atI at e ⊢
    rw [dps_len h2]
    cases z : ixN _ _ with
    | none => rw [z] at e; cases e
    | some j' =>
      rw [z] at e
      have e' : _ = some d := e
      obtain ⟨hs', _⟩ := ixN_seq z
      rw [g1] at hs'; cases hs'
      exact k1
  · split at e
    · rename_i hz
      have := ha.str_; subst this
      have := hb.int_; subst this
      cases z : atI _ _ with
      | none => rw [z] at e; cases e
      | some c =>
        rw [z] at e
        cases e
        exact ix_str value slice pins s σ H _ _ v u Q I rx ry ⟨_, _, c, rfl, rfl, hz, z, q _ _ _ (Gw.refl ex) (.str _)⟩ hs
    · cases e
  · cases e
/-- xs[lo:hi] -/
def slD (d : D) (lo hi : Option Int) : Option D := match d with
  | .list xs => some (.list (cutD xs lo hi))
  | .tuple xs => some (.tuple (cutD xs lo hi))
  | _ => none
theorem cut_dds {xs : List D} {vs : List V} (h : Dds Hf vs xs) (lo hi : Option Int) : Dds Hf (cutV vs lo hi) (cutD xs lo hi) := by
  unfold cutV cutD
  rw [dps_len h]
  exact dps_take _ (dps_drop _ h)
def rSl (x : V) (lo hi : Option Int) (H : Hp) (Q : VK) : Prop := ∃ Hf d e, slD d lo hi = some e ∧ Ex Hf H ∧ Lv Hf H x d ∧ ∀ v Hf' H', Gw Hf H Hf' H' → Dd Hf' v e → Q v H'
theorem sl_ok : SlR X rSl := by
  intro pins s σ H x v vl vu lo hi sl Q I rx hs pl pu h
  obtain ⟨Hf, d, e, he, ex, hx, q⟩ := h
  unfold slD at he
  split at he
  · rename_i xs
    cases he
    obtain ⟨a, vs, rfl, h1, h2⟩ := hx.lst
    refine sl_list pins s σ H _ v vl vu lo hi sl Q I rx hs pl pu ⟨a, vs, rfl, .inl h1, fun p hp => ?_⟩
    have g := Gw.new (o := .lst (cutV vs lo hi)) ex hp
    exact q _ _ _ g (.lst (.inl upd_same) (dps_ex g.ex (cut_dds h2 lo hi)))
  · rename_i xs
    cases he
    obtain ⟨a, vs, rfl, h1, h2⟩ := hx.tup
    refine sl_tupA pins s σ H _ v vl vu lo hi sl Q I rx hs pl pu ⟨a, vs, rfl, .inl h1, fun z => ?_, fun z p hp => ?_⟩
    · rw [dps_len h2] at z
      have : cutD xs lo hi = xs := by
        unfold cutD
        rw [z.1, z.2, List.drop_zero, Nat.sub_zero, List.take_length]
      rw [this] at q
      exact q _ _ _ (Gw.refl ex) (hx.flat fun _ z => nomatch z)
    · have g := Gw.new (o := .tup (cutV vs lo hi)) ex hp
      exact q _ _ _ g (.tup (.inl upd_same) (dps_ex g.ex (cut_dds h2 lo hi)))
  · cases he
theorem tru_dd {K : PySem.W.Frag} {b : Bool} (h : Dd H v d) (e : truD d = some b) : TruV K v H b := by
  cases h with
  | non => cases e; rfl
  | bl x => cases e; rfl
  | int i => cases e; rfl
  | str x =>
    have e' : (if x.length ≤ sizeLine then some (x.length != 0) else none) = some b := e
    split at e'
    · rename_i hz
      cases e'
      refine ⟨hz, ?_⟩
      rw [Bool.eq_iff_iff]
      simp
    · cases e'
  | lst h a =>
    cases e
    refine .inl ⟨_, .inl h, ?_⟩
    cases a <;> rfl
  | tup h a =>
    cases e
    refine .inr (.inl ⟨_, .inl h, ?_⟩)
    cases a <;> rfl
theorem ty_dd {K : PySem.W.Frag} (h : Dd H v d) : TyX K H v (.type (tyD d)) := by
  cases h with
  | non => exact .base .non
  | bl x => exact .base (.bl x)
  | int i => exact .base (.int i)
  | str x => exact .base (.str x)
  | lst h a =>
    rcases h with h | ⟨o, h⟩
    · exact .base (.lst h)
    · exact .base (.frz h)
  | tup h a =>
    rcases h with h | ⟨o, h⟩
    · exact .base (.tup h)
    · exact .fTuple h
end

/-! ### the mirrors of expressions -/
def eV (i : Nat) (ρ : List S) : M S := match ρ[i]? with
  | some (.d x) => ret (.d x)
  | some (.cel j) => ret (.cel j)
  | some (.fn a) => ret (.fn a)
  | _ => stuck
def eFn (a : Addr) (_ : List S) : M S := ret (.fn a)
def eC (d : D) (_ : List S) : M S := ret (.d d)
def op2 {β : Type} (g : D → D → Option β) (fa fb : List S → M S) (ρ : List S) : M β := bnd (fa ρ) fun a => bnd (fb ρ) fun b => bnd (vwM a) fun x => bnd (vwM b) fun y => ofO (g x y)
def op1 {β : Type} (g : D → Option β) (fa : List S → M S) (ρ : List S) : M β := bnd (fa ρ) fun a => bnd (vwM a) fun x => ofO (g x)
def eBin (g : D → D → Option D) (fa fb : List S → M S) (ρ : List S) : M S := bnd (op2 g fa fb ρ) fun d => ret (.d d)
def eCmp (g : D → D → Option Bool) (fa fb : List S → M S) (ρ : List S) : M S := bnd (op2 g fa fb ρ) fun b => ret (.d (.bool b))
def eIsN (fa : List S → M S) (ρ : List S) : M S := bnd (op1 isnD fa ρ) fun b => ret (.d (.bool b))
def eIsNN (fa : List S → M S) (ρ : List S) : M S := bnd (op1 isnD fa ρ) fun b => ret (.d (.bool (!b)))
def tT (fa : List S → M S) (ρ : List S) : M Bool := op1 truD fa ρ
def tNotM (f : List S → M Bool) (ρ : List S) : M Bool := bnd (f ρ) fun b => ret (!b)
def tAndM (f g : List S → M Bool) (ρ : List S) : M Bool := bnd (f ρ) fun b => if b = true then g ρ else ret false
def tOrM (f g : List S → M Bool) (ρ : List S) : M Bool := bnd (f ρ) fun b => if b = true then ret true else g ρ
def eAndM (f g : List S → M S) (ρ : List S) : M S := bnd (f ρ) fun a => bnd (vwM a) fun x => bnd (ofO (truD x)) fun b => if b = true then g ρ else ret a
def eOrM (f g : List S → M S) (ρ : List S) : M S := bnd (f ρ) fun a => bnd (vwM a) fun x => bnd (ofO (truD x)) fun b => if b = true then ret a else g ρ
def eNotM (f : List S → M S) (ρ : List S) : M S := bnd (op1 truD f ρ) fun b => ret (.d (.bool (!b)))
def eIf (t : List S → M Bool) (f g : List S → M S) (ρ : List S) : M S := bnd (t ρ) fun b => if b = true then f ρ else g ρ
def tChn (g g' : D → D → Option Bool) (fa fb fc : List S → M S) (ρ : List S) : M Bool := bnd (fa ρ) fun a => bnd (fb ρ) fun b => bnd (vwM a) fun x => bnd (vwM b) fun y => bnd (ofO (g x y)) fun k => if k = true then bnd (fc ρ) fun c => bnd (vwM b) fun y' => bnd (vwM c) fun z => ofO (g' y' z) else ret false
def eChn (g g' : D → D → Option Bool) (fa fb fc : List S → M S) (ρ : List S) : M S := bnd (tChn g g' fa fb fc ρ) fun b => ret (.d (.bool b))
def aNil (_ : List S) : M (List S) := ret []
def aCons (f : List S → M S) (g : List S → M (List S)) (ρ : List S) : M (List S) := bnd (f ρ) fun a => bnd (g ρ) fun as => ret (a :: as)
def asD : List S → Option (List D)
  | [] => some []
  | .d x :: r => (asD r).map (x :: ·)
  | _ :: _ => none
def eTup (g : List S → M (List S)) (ρ : List S) : M S := bnd (g ρ) fun as => bnd (ofO (asD as)) fun xs => if xs.length ≤ sizeLine then ret (.d (.tuple xs)) else stuck
def eLst (g : List S → M (List S)) (ρ : List S) : M Rv := bnd (g ρ) fun as => bnd (ofO (asD as)) fun xs => if xs.length ≤ sizeLine then ret (.own (.lst xs)) else stuck
def frz : Rv → M S
  | .d x => ret (.d x)
  | .own (.lst xs) => ret (.d (.list xs))
  | .cel j => ret (.cel j)
  | _ => stuck
def eFrz (f : List S → M Rv) (ρ : List S) : M S := bnd (f ρ) frz
def sRv : S → M Rv
  | .d x => ret (.d x)
  | .cel j => ret (.cel j)
  | _ => stuck
def eRv (f : List S → M S) (ρ : List S) : M Rv := bnd (f ρ) sRv
def oNone (_ : List S) : M (Option Int) := ret none
def oSome (f : List S → M S) (ρ : List S) : M (Option Int) := bnd (f ρ) fun a => match a with
  | .d (.int i) => ret (some i)
  | _ => stuck
def eSl (f : List S → M S) (l h : List S → M (Option Int)) (ρ : List S) : M S := bnd (f ρ) fun a => bnd (l ρ) fun lo => bnd (h ρ) fun hi => bnd (vwM a) fun x => bnd (ofO (slD x lo hi)) fun d => ret (.d d)

section
variable {X : Cx} {W : WX} {B : Hp} {ca : List Addr} {Hf H : Hp} {ρ : List S} {σ : L2.St} {cs : Store} {α β : Type} {P : List Addr → Hp → Hp → Store → β → Prop}
theorem vwM_ {a : S} {k : D → M β} (r : Rel B ca ρ cs Hf σ H) (h : Gs X W B ca Hf ρ σ (bnd (vwM a) k cs) P) : ∃ d, vw a cs = some d ∧ Gs X W B ca Hf ρ σ (k d cs) P := by
  unfold bnd vwM at h
  cases e : vw a cs with
  | none => rw [e] at h; exact h.elim
  | some d => rw [e] at h; exact ⟨d, rfl, h⟩
theorem ofOb_ {o : Option α} {k : α → M β} (h : Gs X W B ca Hf ρ σ (bnd (ofO o) k cs) P) : ∃ d, o = some d ∧ Gs X W B ca Hf ρ σ (k d cs) P := by
  cases o with
  | none => exact h.elim
  | some d => exact ⟨d, rfl, h⟩
abbrev KE (X : Cx) (W : WX) (t : TE) (f : List S → M S) : Prop := ∀ (B : Hp) (ca : List Addr) (ρ : List S) (cs : Store) (Hf : Hp) (σ : L2.St) (H : Hp) (Q : VK), Rel B ca ρ cs Hf σ H →
  Gs X W B ca Hf ρ σ (f ρ cs) (fun ca' Hf' H' _ s => ∀ v, SvOk ca' Hf' s v → Q v H') → t σ H Q
theorem op2_run {γ : Type} {g : D → D → Option γ} {fa fb : List S → M S} {ta tb : TE} {P : List Addr → Hp → Hp → Store → β → Prop} {k : γ → M β} (ka : KE X W ta fa) (kb : KE X W tb fb) (r : Rel B ca ρ cs Hf σ H)
    (h : Gs X W B ca Hf ρ σ (bnd (op2 g fa fb ρ) k cs) P) {R : V → V → Hp → Prop}
    (hR : ∀ ca2 Hf2 H2 cs2 x y da db z, Nx ca Hf ca2 Hf2 → Rel B ca2 ρ cs2 Hf2 σ H2 → Lv Hf2 H2 x da → Lv Hf2 H2 y db → g da db = some z → Gs X W B ca2 Hf2 ρ σ (k z cs2) P → R x y H2) :
    ta σ H fun x H1 => tb σ H1 fun y H2 => R x y H2 := by
  have h' : Gs X W B ca Hf ρ σ (bnd (fa ρ) (fun a => bnd (fb ρ) fun b => bnd (vwM a) fun x => bnd (vwM b) fun y => bnd (ofO (g x y)) k) cs) P := by
    have e : bnd (op2 g fa fb ρ) k cs = bnd (fa ρ) (fun a => bnd (fb ρ) fun b => bnd (vwM a) fun x => bnd (vwM b) fun y => bnd (ofO (g x y)) k) cs := by
      unfold op2 bnd
      cases fa ρ cs with
      | ok a c1 =>
        dsimp only
        cases fb ρ c1 with
        | ok b c2 =>
          dsimp only
          cases vwM a c2 with
          | ok x c3 =>
            dsimp only
            cases vwM b c3 with
            | ok y c4 => rfl
            | er _ _ => rfl
            | no => rfl
          | er _ _ => rfl
          | no => rfl
        | er _ _ => rfl
        | no => rfl
      | er _ _ => rfl
      | no => rfl
    rw [← e]; exact h
  refine ka B ca ρ cs Hf σ H _ r (h'.bind.mono fun ca1 Hf1 H1 cs1 a n1 r1 h1 x hx => ?_)
  refine kb B ca1 ρ cs1 Hf1 σ H1 _ r1 (h1.bind.mono fun ca2 Hf2 H2 cs2 b n2 r2 h2 y hy => ?_)
  obtain ⟨da, e1, h3⟩ := vwM_ r2 h2
  obtain ⟨db, e2, h4⟩ := vwM_ r2 h3
  obtain ⟨z, e3, h5⟩ := ofOb_ h4
  exact hR ca2 Hf2 H2 cs2 x y da db z (n1.trans n2) r2 (vw_ok r2 (hx.nx n2) e1) (vw_ok r2 hy e2) e3 h5
theorem op1_run {γ : Type} {g : D → Option γ} {fa : List S → M S} {ta : TE} {k : γ → M β} (ka : KE X W ta fa) (r : Rel B ca ρ cs Hf σ H)
    (h : Gs X W B ca Hf ρ σ (bnd (op1 g fa ρ) k cs) P) {R : V → Hp → Prop}
    (hR : ∀ ca2 Hf2 H2 cs2 x da z, Nx ca Hf ca2 Hf2 → Rel B ca2 ρ cs2 Hf2 σ H2 → Lv Hf2 H2 x da → g da = some z → Gs X W B ca2 Hf2 ρ σ (k z cs2) P → R x H2) :
    ta σ H fun x H1 => R x H1 := by
  have h' : Gs X W B ca Hf ρ σ (bnd (fa ρ) (fun a => bnd (vwM a) fun x => bnd (ofO (g x)) k) cs) P := by
    have e : bnd (op1 g fa ρ) k cs = bnd (fa ρ) (fun a => bnd (vwM a) fun x => bnd (ofO (g x)) k) cs := by
      unfold op1 bnd
      cases fa ρ cs with
      | ok a c1 =>
        dsimp only
        cases vwM a c1 with
        | ok x c3 => rfl
        | er _ _ => rfl
        | no => rfl
      | er _ _ => rfl
      | no => rfl
    rw [← e]; exact h
  refine ka B ca ρ cs Hf σ H _ r (h'.bind.mono fun ca1 Hf1 H1 cs1 a n1 r1 h1 x hx => ?_)
  obtain ⟨da, e1, h3⟩ := vwM_ r1 h1
  obtain ⟨z, e3, h5⟩ := ofOb_ h3
  exact hR ca1 Hf1 H1 cs1 x da z n1 r1 (vw_ok r1 hx e1) e3 h5
/-- a Gs without a rest -/
theorem Gs.rest {res : M β} (h : Gs X W B ca Hf ρ σ (res cs) P) : Gs X W B ca Hf ρ σ (bnd res ret cs) P := by
  have e : bnd res ret cs = res cs := by
    unfold bnd
    cases res cs <;> rfl
  rw [e]; exact h
end

section
variable {X : Cx} {W : WX} {a b c : Expr} {fa fb fc : List S → M S} {pos : Pos}
theorem de_name (i : Nat) {x : Str} (hN : X.N[i]? = some x := by rfl) (hv : Vis X.env.scope x := by first | exact Or.inl rfl | exact Or.inr (Or.inl rfl) | exact Or.inr (Or.inr rfl)) (hd : (x == ("__debug__" : Str)) = false := by decide)
    (hcd : (x == ("__classdict__" : Str)) = false := by decide) : DE X W (.Name x pos) (eV i) := by
  refine ⟨_, pe_var hN hv hd hcd, fun B ca ρ cs Hf σ H Q r h => ?_⟩
  unfold eV at h
  cases e : ρ[i]? with
  | none => rw [e] at h; exact h.elim
  | some s =>
    rw [e] at h
    cases s with
    | no => exact h.elim
    | d x =>
      obtain ⟨v, h1, h2⟩ := r.get e (fun z => nomatch z)
      exact ⟨v, h1, h.ret_ r v h2⟩
    | cel j =>
      obtain ⟨v, h1, h2⟩ := r.get e (fun z => nomatch z)
      exact ⟨v, h1, h.ret_ r v h2⟩
    | fn a =>
      obtain ⟨v, h1, h2⟩ := r.get e (fun z => nomatch z)
      exact ⟨v, h1, h.ret_ r v h2⟩
theorem de_int {i j} : DE X W (.Constant (.int i) j pos) (eC (.int i)) := ⟨_, pe_int, fun B ca ρ cs Hf σ H Q r h => h.ret_ r _ (.int i)⟩
theorem de_bl {i j} : DE X W (.Constant (.bool i) j pos) (eC (.bool i)) := ⟨_, pe_bl, fun B ca ρ cs Hf σ H Q r h => h.ret_ r _ (.bl i)⟩
theorem de_str {i j} : DE X W (.Constant (.str i) j pos) (eC (.str i)) := ⟨_, pe_str, fun B ca ρ cs Hf σ H Q r h => h.ret_ r _ (.str i)⟩
theorem de_non {j} : DE X W (.Constant .none j pos) (eC .none) := ⟨_, pe_non, fun B ca ρ cs Hf σ H Q r h => h.ret_ r _ .non⟩
theorem de_globI {x : Str} {i : Int} {t : Tok} (hm : X.mg x = some (.int i t)) (hg : Gl X x := by rfl) (hd : (x == ("__debug__" : Str)) = false := by decide) : DE X W (.Name x pos) (eC (.int i)) :=
  ⟨_, pe_glob (v := .int i) hg hm ⟨t, rfl⟩ hd, fun B ca ρ cs Hf σ H Q r h => h.ret_ r _ (.int i)⟩
theorem de_globF {x : Str} {a : Addr} (hm : X.mg x = some (.ref a)) (hg : Gl X x := by rfl) (hd : (x == ("__debug__" : Str)) = false := by decide) : DE X W (.Name x pos) (eFn a) :=
  ⟨_, pe_glob (v := .ref a) hg hm rfl hd, fun B ca ρ cs Hf σ H Q r h => h.ret_ r _ rfl⟩
theorem de_globS {x y : Str} {t : Tok} (hm : X.mg x = some (.str y t)) (hg : Gl X x := by rfl) (hd : (x == ("__debug__" : Str)) = false := by decide) : DE X W (.Name x pos) (eC (.str y)) :=
  ⟨_, pe_glob (v := .str y) hg hm ⟨t, rfl⟩ hd, fun B ca ρ cs Hf σ H Q r h => h.ret_ r _ (.str y)⟩
theorem DO.frz {f : List S → M Rv} (h : DO X W a f) : DE X W a (eFrz f) := by
  obtain ⟨t, p, k⟩ := h
  refine ⟨t, p, fun B ca ρ cs Hf σ H Q r h => ?_⟩
  refine k B ca ρ cs Hf σ H Q r (h.bind.mono fun ca1 Hf1 H1 cs1 rv n1 r1 h1 v hv => ?_)
  cases rv with
  | d x => exact h1.ret_ r1 v hv
  | cel j => exact h1.ret_ r1 v hv
  | own o =>
    cases o with
    | lst xs =>
      obtain ⟨Hf2, r2, n2, dp⟩ := r1.own hv
      exact h1 ca1 Hf2 H1 n2 r2 v dp
    | dK kvs => exact h1.elim
theorem DE.rv (h : DE X W a fa) : DO X W a (eRv fa) := by
  obtain ⟨t, p, k⟩ := h
  refine ⟨t, p, fun B ca ρ cs Hf σ H Q r h => ?_⟩
  refine k B ca ρ cs Hf σ H Q r (h.bind.mono fun ca1 Hf1 H1 cs1 s n1 r1 h1 v hv => ?_)
  cases s with
  | d x => exact h1.ret_ r1 v hv
  | cel j => exact h1.ret_ r1 v hv
  | fn a => exact h1.elim
  | no => exact h1.elim
theorem de_op {op : Operator} {g : D → D → Option D} (ho : OpR X (binaryOp op) (rD g)) (ha : DE X W a fa) (hb : DE X W b fb) : DE X W (.BinOp a op b pos) (eBin g fa fb) := by
  obtain ⟨ta, pa, ka⟩ := ha
  obtain ⟨tb, pb, kb⟩ := hb
  refine ⟨_, pe_op ho pa pb, fun B ca ρ cs Hf σ H Q r h => ?_⟩
  refine op2_run ka kb r h fun ca2 Hf2 H2 cs2 x y da db z n2 r2 hx hy hz h2 => ?_
  refine ⟨Hf2, da, db, z, hz, r2.ext, hx, hy, fun v Hf3 H3 g3 dv => ?_⟩
  obtain ⟨r3, n3⟩ := r2.gw g3
  exact h2 ca2 Hf3 H3 n3 r3 v dv
theorem de_cmp {op : CmpOp} {g : D → D → Option Bool} (ho : OpR X (compareOp op) (rDb g)) (ha : DE X W a fa) (hb : DE X W b fb) (hm : behindInMarks op b = false := by rfl) : DE X W (.Compare a [op] [b] pos) (eCmp g fa fb) := by
  obtain ⟨ta, pa, ka⟩ := ha
  obtain ⟨tb, pb, kb⟩ := hb
  refine ⟨_, pe_cmpR ho pa pb hm, fun B ca ρ cs Hf σ H Q r h => ?_⟩
  refine op2_run ka kb r h fun ca2 Hf2 H2 cs2 x y da db z n2 r2 hx hy hz h2 => ?_
  exact ⟨Hf2, da, db, z, hz, r2.ext, hx, hy, h2.ret_ r2 _ (.bl z)⟩
theorem dt_cmp {op : CmpOp} {g : D → D → Option Bool} (ho : OpR X (compareOp op) (rDb g)) (ha : DE X W a fa) (hb : DE X W b fb) (hm : behindInMarks op b = false := by rfl) : DT X W (.Compare a [op] [b] pos) (op2 g fa fb) := by
  obtain ⟨ta, pa, ka⟩ := ha
  obtain ⟨tb, pb, kb⟩ := hb
  refine ⟨_, pt_cmpR ho pa pb hm, fun B ca ρ cs Hf σ H Q r h => ?_⟩
  refine op2_run ka kb r h.rest fun ca2 Hf2 H2 cs2 x y da db z n2 r2 hx hy hz h2 => ?_
  exact ⟨Hf2, da, db, z, hz, r2.ext, hx, hy, z, rfl, h2.ret_ r2⟩
theorem isn_dec {da : D} {x : V} {k : Bool} (hx : Dd H x da) (hz : isnD da = some k) : decide (x = V.non) = k := by
  cases hx <;> (unfold isnD at hz; cases hz; first | rfl | simp)
theorem de_isn {j p} (ha : DE X W a fa) : DE X W (.Compare a [.Is] [.Constant .none j p] pos) (eIsN fa) := by
  obtain ⟨ta, pa, ka⟩ := ha
  refine ⟨_, pe_cmpR op_isN pa pe_non rfl, fun B ca ρ cs Hf σ H Q r h => ?_⟩
  refine op1_run ka r h fun ca2 Hf2 H2 cs2 x da z n2 r2 hx hz h2 => ?_
  refine ⟨rfl, ?_⟩
  rw [isn_dec hx.1 hz]
  exact h2.ret_ r2 _ (.bl z)
theorem de_isnn {j p} (ha : DE X W a fa) : DE X W (.Compare a [.IsNot] [.Constant .none j p] pos) (eIsNN fa) := by
  obtain ⟨ta, pa, ka⟩ := ha
  refine ⟨_, pe_cmpR op_notN pa pe_non rfl, fun B ca ρ cs Hf σ H Q r h => ?_⟩
  refine op1_run ka r h fun ca2 Hf2 H2 cs2 x da z n2 r2 hx hz h2 => ?_
  refine ⟨rfl, ?_⟩
  rw [isn_dec hx.1 hz]
  exact h2.ret_ r2 _ (.bl (!z))
theorem dt_isn {j p} (ha : DE X W a fa) : DT X W (.Compare a [.Is] [.Constant .none j p] pos) (op1 isnD fa) := by
  obtain ⟨ta, pa, ka⟩ := ha
  refine ⟨_, pt_cmpR op_isN pa pe_non rfl, fun B ca ρ cs Hf σ H Q r h => ?_⟩
  refine op1_run ka r h.rest fun ca2 Hf2 H2 cs2 x da z n2 r2 hx hz h2 => ?_
  refine ⟨rfl, z, by rw [isn_dec hx.1 hz], h2.ret_ r2⟩
theorem dt_isnn {j p} (ha : DE X W a fa) : DT X W (.Compare a [.IsNot] [.Constant .none j p] pos) (tNotM (op1 isnD fa)) := by
  obtain ⟨ta, pa, ka⟩ := ha
  refine ⟨_, pt_cmpR op_notN pa pe_non rfl, fun B ca ρ cs Hf σ H Q r h => ?_⟩
  refine op1_run ka r h fun ca2 Hf2 H2 cs2 x da z n2 r2 hx hz h2 => ?_
  refine ⟨rfl, !z, by rw [isn_dec hx.1 hz], h2.ret_ r2⟩
/-- an expression's truth as a test -/
theorem dt_tru (ha : DE X W a fa) (he : ∀ whole, isTrue a X.env whole = (do let v ← whole; standAt a.pos; holding [v] (truthy v)) := by intro _; rfl) : DT X W a (tT fa) := by
  obtain ⟨ta, pa, ka⟩ := ha
  refine ⟨_, pt_truth pa he, fun B ca ρ cs Hf σ H Q r h => ?_⟩
  refine op1_run ka r h.rest fun ca2 Hf2 H2 cs2 x da z n2 r2 hx hz h2 => ?_
  exact ⟨z, tru_dd hx.1 hz, h2.ret_ r2⟩
theorem dt_not {f : List S → M Bool} (ha : DT X W a f) : DT X W (.UnaryOp .Not a pos) (tNotM f) := by
  obtain ⟨ta, pa, ka⟩ := ha
  refine ⟨_, pt_not pa, fun B ca ρ cs Hf σ H Q r h => ?_⟩
  exact ka B ca ρ cs Hf σ H _ r (h.bind.mono fun ca1 Hf1 H1 cs1 z n1 r1 h1 => h1.ret_ r1)
theorem DW.dt {f : List S → M Bool} (h : DW X W a f) : DT X W a f := let ⟨t, p, k⟩ := h; ⟨t, p.pt, k⟩
variable {f g : List S → M Bool} {rest : List Expr}
theorem dw_and1 (h : DT X W a f) : DW X W (.BoolOp .And [a] pos) f := let ⟨t, p, k⟩ := h; ⟨t, pw_and1 p, k⟩
theorem dw_or1 (h : DT X W a f) : DW X W (.BoolOp .Or [a] pos) f := let ⟨t, p, k⟩ := h; ⟨t, pw_or1 p, k⟩
theorem dw_and (ha : DT X W a f) (hb : DW X W (.BoolOp .And (b :: rest) pos) g) : DW X W (.BoolOp .And (a :: b :: rest) pos) (tAndM f g) := by
  obtain ⟨ta, pa, ka⟩ := ha
  obtain ⟨tb, pb, kb⟩ := hb
  refine ⟨_, pw_and pa pb, fun B ca ρ cs Hf σ H Q r h => ?_⟩
  refine ka B ca ρ cs Hf σ H _ r (h.bind.mono fun ca1 Hf1 H1 cs1 z n1 r1 h1 => ?_)
  cases z with
  | true => exact kb B ca1 ρ cs1 Hf1 σ H1 Q r1 h1
  | false => exact h1.ret_ r1
theorem dw_or (ha : DT X W a f) (hb : DW X W (.BoolOp .Or (b :: rest) pos) g) : DW X W (.BoolOp .Or (a :: b :: rest) pos) (tOrM f g) := by
  obtain ⟨ta, pa, ka⟩ := ha
  obtain ⟨tb, pb, kb⟩ := hb
  refine ⟨_, pw_or pa pb, fun B ca ρ cs Hf σ H Q r h => ?_⟩
  refine ka B ca ρ cs Hf σ H _ r (h.bind.mono fun ca1 Hf1 H1 cs1 z n1 r1 h1 => ?_)
  cases z with
  | true => exact h1.ret_ r1
  | false => exact kb B ca1 ρ cs1 Hf1 σ H1 Q r1 h1
theorem de_one {op} (h : DE X W a fa) : DE X W (.BoolOp op [a] pos) fa := let ⟨t, p, k⟩ := h; ⟨t, pe_one p, k⟩
theorem de_and (ha : DE X W a fa) (hb : DE X W (.BoolOp .And (b :: rest) pos) fb) : DE X W (.BoolOp .And (a :: b :: rest) pos) (eAndM fa fb) := by
  obtain ⟨ta, pa, ka⟩ := ha
  obtain ⟨tb, pb, kb⟩ := hb
  refine ⟨_, pe_andT pa pb, fun B ca ρ cs Hf σ H Q r h => ?_⟩
  refine ka B ca ρ cs Hf σ H _ r (h.bind.mono fun ca1 Hf1 H1 cs1 s n1 r1 h1 v hv => ?_)
  obtain ⟨d, e1, h2⟩ := vwM_ r1 h1
  obtain ⟨z, e2, h3⟩ := ofOb_ h2
  refine ⟨z, tru_dd (vw_ok r1 hv e1).1 e2, ?_⟩
  cases z with
  | true => exact kb B ca1 ρ cs1 Hf1 σ H1 Q r1 h3
  | false => exact h3.ret_ r1 v hv
theorem de_or (ha : DE X W a fa) (hb : DE X W (.BoolOp .Or (b :: rest) pos) fb) : DE X W (.BoolOp .Or (a :: b :: rest) pos) (eOrM fa fb) := by
  obtain ⟨ta, pa, ka⟩ := ha
  obtain ⟨tb, pb, kb⟩ := hb
  refine ⟨_, pe_orT pa pb, fun B ca ρ cs Hf σ H Q r h => ?_⟩
  refine ka B ca ρ cs Hf σ H _ r (h.bind.mono fun ca1 Hf1 H1 cs1 s n1 r1 h1 v hv => ?_)
  obtain ⟨d, e1, h2⟩ := vwM_ r1 h1
  obtain ⟨z, e2, h3⟩ := ofOb_ h2
  refine ⟨z, tru_dd (vw_ok r1 hv e1).1 e2, ?_⟩
  cases z with
  | true => exact h3.ret_ r1 v hv
  | false => exact kb B ca1 ρ cs1 Hf1 σ H1 Q r1 h3
theorem de_not (ha : DE X W a fa) : DE X W (.UnaryOp .Not a pos) (eNotM fa) := by
  obtain ⟨ta, pa, ka⟩ := ha
  refine ⟨_, pe_notT pa, fun B ca ρ cs Hf σ H Q r h => ?_⟩
  refine op1_run ka r h fun ca2 Hf2 H2 cs2 x da z n2 r2 hx hz h2 => ?_
  exact ⟨z, tru_dd hx.1 hz, h2.ret_ r2 _ (.bl (!z))⟩
theorem de_if (hc : DT X W c f) (ha : DE X W a fa) (hb : DE X W b fb) : DE X W (.IfExp c a b pos) (eIf f fa fb) := by
  obtain ⟨tc, pc, kc⟩ := hc
  obtain ⟨ta, pa, ka⟩ := ha
  obtain ⟨tb, pb, kb⟩ := hb
  refine ⟨_, pe_ifExp pc pa pb, fun B ca ρ cs Hf σ H Q r h => ?_⟩
  refine kc B ca ρ cs Hf σ H _ r (h.bind.mono fun ca1 Hf1 H1 cs1 z n1 r1 h1 => ?_)
  cases z with
  | true => exact ka B ca1 ρ cs1 Hf1 σ H1 Q r1 h1
  | false => exact kb B ca1 ρ cs1 Hf1 σ H1 Q r1 h1
theorem chn_run {ta tb tc : TE} {g g' : D → D → Option Bool} (ka : KE X W ta fa) (kb : KE X W tb fb) (kc : KE X W tc fc) {B : Hp} {ca : List Addr} {ρ : List S} {cs : Store} {Hf : Hp} {σ : L2.St} {H : Hp} (r : Rel B ca ρ cs Hf σ H) {R : Bool → Hp → Prop}
    (h : Gs X W B ca Hf ρ σ (tChn g g' fa fb fc ρ cs) (fun _ _ H' _ b => R b H')) : tChain (rDb g) (rDb g') ta tb tc σ H fun x H' => ∃ k, x = .bl k ∧ R k H' := by
  refine ka B ca ρ cs Hf σ H _ r (h.bind.mono fun ca1 Hf1 H1 cs1 s n1 r1 h1 x hx => ?_)
  refine kb B ca1 ρ cs1 Hf1 σ H1 _ r1 (h1.bind.mono fun ca2 Hf2 H2 cs2 s2 n2 r2 h2 y hy => ?_)
  obtain ⟨da, e1, h3⟩ := vwM_ r2 h2
  obtain ⟨db, e2, h4⟩ := vwM_ r2 h3
  obtain ⟨z, e3, h5⟩ := ofOb_ h4
  refine ⟨Hf2, da, db, z, e3, r2.ext, vw_ok r2 (hx.nx n2) e1, vw_ok r2 hy e2, z, rfl, ?_⟩
  cases z with
  | false => exact iteF ⟨false, rfl, h5.ret_ r2⟩
  | true =>
    refine iteT ?_
    have h5' : Gs X W B ca2 Hf2 ρ σ (bnd (fc ρ) (fun c => bnd (vwM s2) fun y' => bnd (vwM c) fun z => ofO (g' y' z)) cs2) (fun _ _ H' _ b => R b H') := h5
    refine kc B ca2 ρ cs2 Hf2 σ H2 _ r2 (h5'.bind.mono fun ca3 Hf3 H3 cs3 s3 n3 r3 h6 w hw => ?_)
    obtain ⟨db', e4, h7⟩ := vwM_ r3 h6
    obtain ⟨dc, e5, h8⟩ := vwM_ r3 h7
    obtain ⟨k, e6, h9⟩ := h8.ofO_ r3
    exact ⟨Hf3, db', dc, k, e6, r3.ext, vw_ok r3 (hy.nx n3) e4, vw_ok r3 hw e5, k, rfl, h9⟩
theorem dt_chn {op op' : CmpOp} {g g' : D → D → Option Bool} (ho : OpR X (compareOp op) (rDb g)) (ho' : OpR X (compareOp op') (rDb g')) (ha : DE X W a fa) (hb : DE X W b fb) (hc : DE X W c fc)
    (hm : lastMarks [op, op'] [b, c] = false := by with_unfolding_all rfl) : DT X W (.Compare a [op, op'] [b, c] pos) (tChn g g' fa fb fc) := by
  obtain ⟨ta, pa, ka⟩ := ha
  obtain ⟨tb, pb, kb⟩ := hb
  obtain ⟨tc, pc, kc⟩ := hc
  exact ⟨_, pt_chain ho ho' pa pb pc hm, fun B ca ρ cs Hf σ H Q r h => chn_run ka kb kc r h⟩
theorem de_chn {op op' : CmpOp} {g g' : D → D → Option Bool} (ho : OpR X (compareOp op) (rDb g)) (ho' : OpR X (compareOp op') (rDb g')) (ha : DE X W a fa) (hb : DE X W b fb) (hc : DE X W c fc)
    (hm : lastMarks [op, op'] [b, c] = false := by with_unfolding_all rfl) : DE X W (.Compare a [op, op'] [b, c] pos) (eChn g g' fa fb fc) := by
  obtain ⟨ta, pa, ka⟩ := ha
  obtain ⟨tb, pb, kb⟩ := hb
  obtain ⟨tc, pc, kc⟩ := hc
  have mono : ∀ {σ : L2.St} {H : Hp} {Q Q' : VK}, tChain (rDb g) (rDb g') ta tb tc σ H Q → tChain (rDb g) (rDb g') ta tb tc σ H Q := fun h => h
  refine ⟨_, pe_chain ho ho' pa pb pc hm, fun B ca ρ cs Hf σ H Q r h => ?_⟩
  refine ka B ca ρ cs Hf σ H _ r ?_
  have h0 : Gs X W B ca Hf ρ σ (bnd (fa ρ) (fun s => bnd (fun cs => bnd (fb ρ) (fun b => bnd (vwM s) fun x => bnd (vwM b) fun y => bnd (ofO (g x y)) fun k => if k = true then bnd (fc ρ) fun c => bnd (vwM b) fun y' => bnd (vwM c) fun z => ofO (g' y' z) else ret false) cs) fun b => ret (.d (.bool b))) cs) (fun ca' Hf' H' _ s => ∀ v, SvOk ca' Hf' s v → Q v H') := by
    have e : ∀ (m : M S) (k : S → M Bool) (k2 : Bool → M S), bnd (bnd m k) k2 cs = bnd m (fun s => bnd (k s) k2) cs := fun m k k2 => by
      unfold bnd
      cases m cs <;> rfl
    have h' := h
    unfold eChn tChn at h'
    rw [e] at h'
    exact h'
  refine h0.bind.mono fun ca1 Hf1 H1 cs1 s n1 r1 h1 x hx => ?_
  have h1' := h1.bind
  refine kb B ca1 ρ cs1 Hf1 σ H1 _ r1 (h1'.bind.mono fun ca2 Hf2 H2 cs2 s2 n2 r2 h2 y hy => ?_)
  obtain ⟨da, e1, h3⟩ := vwM_ r2 h2
  obtain ⟨db, e2, h4⟩ := vwM_ r2 h3
  obtain ⟨z, e3, h5⟩ := ofOb_ h4
  refine ⟨Hf2, da, db, z, e3, r2.ext, vw_ok r2 (hx.nx n2) e1, vw_ok r2 hy e2, z, rfl, ?_⟩
  cases z with
  | false => exact iteF ((h5.ret_ r2).ret_ r2 _ (.bl false))
  | true =>
    refine iteT ?_
    have h5' : Gs X W B ca2 Hf2 ρ σ (bnd (fc ρ) (fun c => bnd (vwM s2) fun y' => bnd (vwM c) fun z => ofO (g' y' z)) cs2) _ := h5
    refine kc B ca2 ρ cs2 Hf2 σ H2 _ r2 (h5'.bind.mono fun ca3 Hf3 H3 cs3 s3 n3 r3 h6 w hw => ?_)
    obtain ⟨db', e4, h7⟩ := vwM_ r3 h6
    obtain ⟨dc, e5, h8⟩ := vwM_ r3 h7
    obtain ⟨k, e6, h9⟩ := h8.ofO_ r3
    exact ⟨Hf3, db', dc, k, e6, r3.ext, vw_ok r3 (hy.nx n3) e4, vw_ok r3 hw e5, h9.ret_ r3 _ (.bl k)⟩
end
end Dn

set_option Elab.async false
set_option linter.all false
set_option maxRecDepth 100000
set_option maxHeartbeats 1000000
/-! Dn4: arguments, displays, subscripts, calls of built-ins. -/
namespace Dn
open PySem L2
abbrev KA (X : Cx) (W : WX) (t : TA) (f : List S → M (List S)) : Prop := ∀ (B : Hp) (ca : List Addr) (ρ : List S) (cs : Store) (Hf : Hp) (σ : L2.St) (H : Hp) (Q : List V → Hp → Prop), Rel B ca ρ cs Hf σ H →
  Gs X W B ca Hf ρ σ (f ρ cs) (fun ca' Hf' H' _ ss => ∀ vs, SvsOk ca' Hf' ss vs → Q vs H') → t σ H Q
section
variable {Hf H : Hp} {ca : List Addr}
theorem asD_dds : ∀ {ss : List S} {xs : List D} {vs : List V}, asD ss = some xs → SvsOk ca Hf ss vs → Dds Hf vs xs
  | [], xs, vs, e, h => by
    have : [] = xs := Option.some.inj e
    subst this
    cases h
    exact .nil
  | .d x :: r, xs, vs, e, h => by
    unfold asD at e
    cases q : asD r with
    | none => rw [q] at e; cases e
    | some ys =>
      rw [q] at e
      have : x :: ys = xs := Option.some.inj e
      subst this
      cases h with
      | cons h t => exact .cons h (asD_dds q t)
  | .cel j :: r, xs, vs, e, h => by cases e
  | .fn a :: r, xs, vs, e, h => by cases e
  | .no :: r, xs, vs, e, h => by cases e
end
section
variable {X : Cx} {W : WX} {a b e : Expr} {es : List Expr} {fa fb : List S → M S} {g : List S → M (List S)} {pos : Pos}
theorem da_nil : DA X W [] aNil := ⟨_, pa_nil, fun B ca ρ cs Hf σ H Q r h => h.ret_ r _ .nil⟩
theorem da_cons (ha : DE X W e fa) (hr : DA X W es g) (hs : starEach (e :: es) X.env = (false, eval e X.env) :: starEach es X.env := by rfl) : DA X W (e :: es) (aCons fa g) := by
  obtain ⟨ta, pa, ka⟩ := ha
  obtain ⟨tr, pr, kr⟩ := hr
  refine ⟨_, pa_cons pa pr hs, fun B ca ρ cs Hf σ H Q r h => ?_⟩
  refine ka B ca ρ cs Hf σ H _ r (h.bind.mono fun ca1 Hf1 H1 cs1 s n1 r1 h1 v hv => ?_)
  refine kr B ca1 ρ cs1 Hf1 σ H1 _ r1 (h1.bind.mono fun ca2 Hf2 H2 cs2 ss n2 r2 h2 vs hvs => ?_)
  exact h2.ret_ r2 _ (.cons (hv.nx n2) hvs)
theorem de_tup {k} (hr : DA X W es g) : DE X W (.Tuple es k pos) (eTup g) := by
  obtain ⟨tr, pr, kr⟩ := hr
  refine ⟨_, pe_tup pr, fun B ca ρ cs Hf σ H Q r h => ?_⟩
  refine kr B ca ρ cs Hf σ H _ r (h.bind.mono fun ca1 Hf1 H1 cs1 ss n1 r1 h1 vs hvs => ?_)
  obtain ⟨xs, e1, h2⟩ := ofOb_ h1
  have dd := asD_dds e1 hvs
  split at h2
  · rename_i hz
    refine ⟨by rw [dps_len dd]; exact hz, fun p hp => ?_⟩
    obtain ⟨r2, n2⟩ := r1.news (o := .tup vs) hp
    exact h2 ca1 _ _ n2 r2 _ (.tup (.inl upd_same) (dps_ex n2.ex dd))
  · exact h2.elim
theorem do_lst (hr : DA X W es g) : DO X W (.List es pos) (eLst g) := by
  obtain ⟨tr, pr, kr⟩ := hr
  refine ⟨_, pe_lst pr, fun B ca ρ cs Hf σ H Q r h => ?_⟩
  refine kr B ca ρ cs Hf σ H _ r (h.bind.mono fun ca1 Hf1 H1 cs1 ss n1 r1 h1 vs hvs => ?_)
  obtain ⟨xs, e1, h2⟩ := ofOb_ h1
  have dd := asD_dds e1 hvs
  split at h2
  · rename_i hz
    refine ⟨by rw [dps_len dd]; exact hz, fun p hp => ?_⟩
    obtain ⟨m1, m2, m3⟩ := r1.newIn hp
    exact h2 ca1 Hf1 _ Nx.refl (r1.grow (ex_new hp)) _ ⟨p, rfl, ⟨vs, upd_same, dd⟩, m1, m2, m3⟩
  · exact h2.elim
theorem de_ix (ha : DE X W a fa) (hb : DE X W b fb) (hs : PlainIx b := by exact fun _ _ => rfl) : DE X W (.Subscript a b pos) (eBin ixD fa fb) := by
  obtain ⟨ta, pa, ka⟩ := ha
  obtain ⟨tb, pb, kb⟩ := hb
  refine ⟨_, pe_ix ix_ok pa pb hs, fun B ca ρ cs Hf σ H Q r h => ?_⟩
  refine op2_run ka kb r h fun ca2 Hf2 H2 cs2 x y da db z n2 r2 hx hy hz h2 => ?_
  refine ⟨Hf2, da, db, z, hz, r2.ext, hx, hy, fun v Hf3 H3 g3 dv => ?_⟩
  obtain ⟨r3, n3⟩ := r2.gw g3
  exact h2 ca2 Hf3 H3 n3 r3 v dv
/-- a part of a slice -/
def DPo (X : Cx) (W : WX) (e : Option Expr) (f : List S → M (Option Int)) : Prop := ∃ t : TO, PO X e t ∧ ∀ (B : Hp) (ca : List Addr) (ρ : List S) (cs : Store) (Hf : Hp) (σ : L2.St) (H : Hp) (Q : Option Int → Hp → Prop), Rel B ca ρ cs Hf σ H →
  Gs X W B ca Hf ρ σ (f ρ cs) (fun ca' Hf' H' _ o => Q o H') → t σ H Q
theorem dpo_none : DPo X W none oNone := ⟨_, po_none, fun B ca ρ cs Hf σ H Q r h => h.ret_ r⟩
theorem dpo_some (ha : DE X W a fa) : DPo X W (some a) (oSome fa) := by
  obtain ⟨ta, pa, ka⟩ := ha
  refine ⟨_, po_some pa, fun B ca ρ cs Hf σ H Q r h => ?_⟩
  refine ka B ca ρ cs Hf σ H _ r (h.bind.mono fun ca1 Hf1 H1 cs1 s n1 r1 h1 v hv => ?_)
  cases s with
  | d x =>
    cases x with
    | int i =>
      have hv' : Dd Hf1 v (.int i) := hv
      cases hv'
      exact ⟨i, rfl, h1.ret_ r1⟩
    | _ => exact h1.elim
  | _ => exact h1.elim
theorem de_sl {lo hi : Option Expr} {p2 : Pos} {fl fh : List S → M (Option Int)} (ha : DE X W a fa) (hl : DPo X W lo fl) (hh : DPo X W hi fh) : DE X W (.Subscript a (.Slice lo hi none p2) pos) (eSl fa fl fh) := by
  obtain ⟨ta, pa, ka⟩ := ha
  obtain ⟨tl, pl, kl⟩ := hl
  obtain ⟨th, ph, kh⟩ := hh
  refine ⟨_, pe_slice sl_ok pa pl ph, fun B ca ρ cs Hf σ H Q r h => ?_⟩
  refine ka B ca ρ cs Hf σ H _ r (h.bind.mono fun ca1 Hf1 H1 cs1 s n1 r1 h1 v hv => ?_)
  refine kl B ca1 ρ cs1 Hf1 σ H1 _ r1 (h1.bind.mono fun ca2 Hf2 H2 cs2 o n2 r2 h2 => ?_)
  refine kh B ca2 ρ cs2 Hf2 σ H2 _ r2 (h2.bind.mono fun ca3 Hf3 H3 cs3 o' n3 r3 h3 => ?_)
  obtain ⟨d, e1, h4⟩ := vwM_ r3 h3
  obtain ⟨d', e2, h5⟩ := ofOb_ h4
  refine ⟨Hf3, d, d', e2, r3.ext, vw_ok r3 (hv.nx (n2.trans n3)) e1, fun w Hf4 H4 g4 dw => ?_⟩
  obtain ⟨r4, n4⟩ := r3.gw g4
  exact h5 ca3 Hf4 H4 n4 r4 w dw
end

/-! ### built-in functions of data -/
def rCd (g : List D → Option D) : List V → Hp → VK → Prop := fun vs H Q => ∃ Hf ds d, g ds = some d ∧ Ex Hf H ∧ Lvs Hf H vs ds ∧ ∀ v Hf' H', Gw Hf H Hf' H' → Dd Hf' v d → Q v H'
where Lvs (Hf H : Hp) : List V → List D → Prop
  | [], [] => True
  | v :: vs, d :: ds => Lv Hf H v d ∧ Lvs Hf H vs ds
  | _, _ => False
def vws : List S → Store → Option (List D)
  | [], _ => some []
  | s :: r, cs => match vw s cs, vws r cs with
    | some d, some ds => some (d :: ds)
    | _, _ => none
def vwsM (ss : List S) : M (List D) := fun cs => match vws ss cs with
  | some ds => .ok ds cs
  | none => .no
def eCd (g : List D → Option D) (f : List S → M (List S)) (ρ : List S) : M S := bnd (f ρ) fun ss => bnd (vwsM ss) fun ds => bnd (ofO (g ds)) fun d => ret (.d d)
theorem vwsM_ {X : Cx} {W : WX} {B : Hp} {ca : List Addr} {Hf : Hp} {ρ : List S} {σ : L2.St} {cs : Store} {β : Type} {P : List Addr → Hp → Hp → Store → β → Prop} {a : List S} {k : List D → M β} (h : Gs X W B ca Hf ρ σ (bnd (vwsM a) k cs) P) : ∃ d, vws a cs = some d ∧ Gs X W B ca Hf ρ σ (k d cs) P := by
  unfold bnd vwsM at h
  cases e : vws a cs with
  | none => rw [e] at h; exact h.elim
  | some d => rw [e] at h; exact ⟨d, rfl, h⟩
theorem vws_ok {B : Hp} {ca : List Addr} {ρ : List S} {cs : Store} {Hf : Hp} {σ : L2.St} {H : Hp} (r : Rel B ca ρ cs Hf σ H) : ∀ {ss : List S} {vs : List V} {ds : List D}, SvsOk ca Hf ss vs → vws ss cs = some ds → rCd.Lvs Hf H vs ds
  | [], _, ds, h, e => by
    have : [] = ds := Option.some.inj e
    subst this
    cases h
    trivial
  | s :: ss, _, ds, h, e => by
    cases h with
    | cons h t =>
      unfold vws at e
      split at e
      · rename_i d ds' e1 e2
        cases e
        exact ⟨vw_ok r h e1, vws_ok r t e2⟩
      · cases e
section
variable {X : Cx} {W : WX} {a b e : Expr} {es : List Expr} {fa fb : List S → M S} {g : List S → M (List S)} {pos : Pos}
theorem eCd_run {gd : List D → Option D} {t : TA} (k : KA X W t g) {B : Hp} {ca : List Addr} {ρ : List S} {cs : Store} {Hf : Hp} {σ : L2.St} {H : Hp} {Q : VK} (r : Rel B ca ρ cs Hf σ H)
    (h : Gs X W B ca Hf ρ σ (eCd gd g ρ cs) (fun ca' Hf' H' _ s => ∀ v, SvOk ca' Hf' s v → Q v H')) : tCB (rCd gd) t σ H Q := by
  refine k B ca ρ cs Hf σ H _ r (h.bind.mono fun ca1 Hf1 H1 cs1 ss n1 r1 h1 vs hvs => ?_)
  obtain ⟨ds, e1, h2⟩ := vwsM_ h1
  obtain ⟨d, e2, h3⟩ := ofOb_ h2
  refine ⟨Hf1, ds, d, e2, r1.ext, vws_ok r1 hvs e1, fun v Hf2 H2 g2 dv => ?_⟩
  obtain ⟨r3, n3⟩ := r1.gw g2
  exact h3 ca1 Hf2 H2 n3 r3 v dv
theorem de_callB {x : Str} {id : String} {p : Pos} {gd : List D → Option D} (hc : CallR X (.builtin id) (rCd gd)) (hm : X.mg x = none) (hv : bootBuiltins x = some (.builtin id)) (ha : DA X W (e :: es) g) (hg : Gl X x := by rfl) (hn : x ≠ "__name__" := by decide) (hdb : (x == ("__debug__" : Str)) = false := by decide)
    (he : starEach (e :: es) X.env = (false, eval e X.env) :: starEach es X.env := by rfl) (hpl : (backTo pos (starEach es X.env)).any (·.1) = false := by rfl) : DE X W (.Call (.Name x p) (e :: es) [] pos) (eCd gd g) := by
  obtain ⟨tr, pr, kr⟩ := ha
  exact ⟨_, pe_callB hc hg hm hv pr hn hdb he hpl, fun B ca ρ cs Hf σ H Q r h => eCd_run kr r h⟩
theorem de_callT {x : Str} {T : String} {p : Pos} {gd : List D → Option D} (hc : CallR X (.type T) (rCd gd)) (hm : X.mg x = none) (hv : bootBuiltins x = some (.type T)) (ha : DA X W (e :: es) g) (hg : Gl X x := by rfl) (hn : x ≠ "__name__" := by decide) (hdb : (x == ("__debug__" : Str)) = false := by decide)
    (he : starEach (e :: es) X.env = (false, eval e X.env) :: starEach es X.env := by rfl) (hpl : (backTo pos (starEach es X.env)).any (·.1) = false := by rfl) : DE X W (.Call (.Name x p) (e :: es) [] pos) (eCd gd g) := by
  obtain ⟨tr, pr, kr⟩ := ha
  exact ⟨_, pe_callTy hc hg hm hv pr hn hdb he hpl, fun B ca ρ cs Hf σ H Q r h => eCd_run kr r h⟩
end
def lenG : List D → Option D
  | [d] => (lenD d).map fun n => .int n
  | _ => none
def minG : List D → Option D
  | [.int i, .int j] => some (.int (if j < i then j else i))
  | _ => none
def maxG : List D → Option D
  | [.int i, .int j] => some (.int (if j > i then j else i))
  | _ => none
def absG : List D → Option D
  | [.int i] => some (.int (if i < 0 then -i else i))
  | _ => none
def intG : List D → Option D
  | [.int i] => some (.int i)
  | [.bool b] => some (.int (if b then 1 else 0))
  | _ => none
def listG : List D → Option D
  | [.list xs] => some (.list xs)
  | [.tuple xs] => some (.list xs)
  | _ => none
def tupleG : List D → Option D
  | [.list xs] => some (.tuple xs)
  | [.tuple xs] => some (.tuple xs)
  | _ => none
section
variable {X : Cx}
theorem lvs_one {Hf H : Hp} {vs : List V} {d : D} (h : rCd.Lvs Hf H vs [d]) : ∃ v, vs = [v] ∧ Lv Hf H v d := by
  match vs, h with
  | [v], h => exact ⟨v, rfl, h.1⟩
  | v :: _ :: _, h => exact h.2.elim
theorem lvs_two {Hf H : Hp} {vs : List V} {d d' : D} (h : rCd.Lvs Hf H vs [d, d']) : ∃ v v', vs = [v, v'] ∧ Lv Hf H v d ∧ Lv Hf H v' d' := by
  match vs, h with
  | [v, v'], h => exact ⟨v, v', rfl, h.1, h.2.1⟩
  | [_], h => exact h.2.elim
  | _ :: _ :: _ :: _, h => exact h.2.2.elim
theorem len_ok : CallR X (.builtin "len") (rCd lenG) := by
  intro pins s σ H xs us Q I r h
  obtain ⟨Hf, ds, d, e, ex, hl, q⟩ := h
  unfold lenG at e
  split at e
  · rename_i d0
    obtain ⟨v, rfl, hv⟩ := lvs_one hl
    cases z : lenD d0 with
    | none => rw [z] at e; cases e
    | some n =>
      rw [z] at e
      cases e
      refine call_len pins s σ H _ us Q I r ⟨v, n, rfl, ?_, q _ _ _ (Gw.refl ex) (.int _)⟩
      have d1 := hv.1
      cases d1 with
      | str x =>
        have z' : (if x.length ≤ sizeLine then some x.length else none) = some n := z
        split at z'
        · cases z'; exact ⟨by assumption, rfl⟩
        · cases z'
      | lst h a => cases z; exact .inl ⟨_, .inl h, (dps_len a).symm⟩
      | tup h a => cases z; exact .inr ⟨_, .inl h, (dps_len a).symm⟩
      | _ => cases z
  · cases e
theorem min_ok (hc : X.calm = true) : CallR X (.builtin "min") (rCd minG) := by
  intro pins s σ H xs us Q I r h
  obtain ⟨Hf, ds, d, e, ex, hl, q⟩ := h
  unfold minG at e
  split at e
  · cases e
    obtain ⟨v, v', rfl, h1, h2⟩ := lvs_two hl
    have := h1.int_; subst this
    have := h2.int_; subst this
    exact call_min2 hc pins s σ H _ us Q I r ⟨_, _, rfl, q _ _ _ (Gw.refl ex) (.int _)⟩
  · cases e
theorem max_ok (hc : X.calm = true) : CallR X (.builtin "max") (rCd maxG) := by
  intro pins s σ H xs us Q I r h
  obtain ⟨Hf, ds, d, e, ex, hl, q⟩ := h
  unfold maxG at e
  split at e
  · cases e
    obtain ⟨v, v', rfl, h1, h2⟩ := lvs_two hl
    have := h1.int_; subst this
    have := h2.int_; subst this
    exact call_max2 hc pins s σ H _ us Q I r ⟨_, _, rfl, q _ _ _ (Gw.refl ex) (.int _)⟩
  · cases e
theorem abs_ok : CallR X (.builtin "abs") (rCd absG) := by
  intro pins s σ H xs us Q I r h
  obtain ⟨Hf, ds, d, e, ex, hl, q⟩ := h
  unfold absG at e
  split at e
  · cases e
    obtain ⟨v, rfl, h1⟩ := lvs_one hl
    have := h1.int_; subst this
    exact call_abs pins s σ H _ us Q I r ⟨_, rfl, q _ _ _ (Gw.refl ex) (.int _)⟩
  · cases e
theorem int_ok : CallR X (.type "int") (rCd intG) := by
  intro pins s σ H xs us Q I r h
  obtain ⟨Hf, ds, d, e, ex, hl, q⟩ := h
  unfold intG at e
  split at e
  · cases e
    obtain ⟨v, rfl, h1⟩ := lvs_one hl
    have := h1.int_; subst this
    exact call_int1 pins s σ H _ us Q I r (.inl ⟨_, rfl, q _ _ _ (Gw.refl ex) (.int _)⟩)
  · cases e
    obtain ⟨v, rfl, h1⟩ := lvs_one hl
    have := h1.bl_; subst this
    exact call_int1 pins s σ H _ us Q I r (.inr ⟨_, rfl, q _ _ _ (Gw.refl ex) (.int _)⟩)
  · cases e
theorem list_ok : CallR X (.type "list") (rCd listG) := by
  intro pins s σ H xs us Q I r h
  obtain ⟨Hf, ds, d, e, ex, hl, q⟩ := h
  unfold listG at e
  split at e
  · cases e
    obtain ⟨v, rfl, h1⟩ := lvs_one hl
    obtain ⟨a, vs, rfl, g1, g2⟩ := h1.lst
    refine call_list_of pins s σ H _ us Q I r ⟨a, vs, rfl, .inl (.inl g1), fun l hl => ?_⟩
    have g := Gw.new (o := .lst vs) ex hl
    exact q _ _ _ g (.lst (.inl upd_same) (dps_ex g.ex g2))
  · cases e
    obtain ⟨v, rfl, h1⟩ := lvs_one hl
    obtain ⟨a, vs, rfl, g1, g2⟩ := h1.tup
    refine call_list_of pins s σ H _ us Q I r ⟨a, vs, rfl, .inr (.inl g1), fun l hl => ?_⟩
    have g := Gw.new (o := .lst vs) ex hl
    exact q _ _ _ g (.lst (.inl upd_same) (dps_ex g.ex g2))
  · cases e
theorem tuple_ok : CallR X (.type "tuple") (rCd tupleG) := by
  intro pins s σ H xs us Q I r h
  obtain ⟨Hf, ds, d, e, ex, hl, q⟩ := h
  unfold tupleG at e
  split at e
  · cases e
    obtain ⟨v, rfl, h1⟩ := lvs_one hl
    obtain ⟨a, vs, rfl, g1, g2⟩ := h1.lst
    refine call_tuple_of pins s σ H _ us Q I r ⟨a, vs, rfl, .inl ⟨.inl g1, fun l hl => ?_⟩⟩
    have g := Gw.new (o := .tup vs) ex hl
    exact q _ _ _ g (.tup (.inl upd_same) (dps_ex g.ex g2))
  · cases e
    obtain ⟨v, rfl, h1⟩ := lvs_one hl
    obtain ⟨a, vs, rfl, g1, g2⟩ := h1.tup
    exact call_tuple_of pins s σ H _ us Q I r ⟨a, vs, rfl, .inr ⟨.inl g1, q _ _ _ (Gw.refl ex) (h1.flat fun _ z => nomatch z)⟩⟩
  · cases e
/-- isinstance(x, T), T a built-in class -/
def eIsa (T : String) (fa : List S → M S) (ρ : List S) : M S := bnd (op1 (fun d => some (isaD T d)) fa ρ) fun b => ret (.d (.bool b))
theorem kit_isa {K : PySem.W.Frag} {H : Hp} {v : V} {d : D} {T : String} (h : Dd H v d) (hT : T = "int" ∨ T = "bool" ∨ T = "str" ∨ T = "list" ∨ T = "tuple" ∨ T = "dict") : PySem.W.kitOne K (.type (tyD d)) (.type T) = some (isaD T d) := by
  cases h <;> rcases hT with rfl | rfl | rfl | rfl | rfl | rfl <;> (refine kit_ty ?_; first | decide +kernel | rfl)
theorem de_isa {W : WX} {a : Expr} {fa : List S → M S} {p p2 pos : Pos} {T : String} {TS : Str} (ha : DE X W a fa) (hm : X.mg "isinstance" = none) (hmT : X.mg TS = none) (hT : T = "int" ∨ T = "bool" ∨ T = "str" ∨ T = "list" ∨ T = "tuple" ∨ T = "dict") (hv : bootBuiltins TS = some (.type T)) (hg : Gl X "isinstance" := by rfl) (hgT : Gl X TS := by rfl)
    (hn : TS ≠ "__name__" := by decide) (hdb : (TS == ("__debug__" : Str)) = false := by decide)
    (h1 : starEach [a, .Name TS p2] X.env = (false, eval a X.env) :: starEach [.Name TS p2] X.env := by rfl) (h2 : starEach [.Name TS p2] X.env = (false, eval (.Name TS p2) X.env) :: starEach [] X.env := by rfl) (h3 : (backTo pos (starEach [.Name TS p2] X.env)).any (·.1) = false := by rfl) :
    DE X W (.Call (.Name "isinstance" p) [a, .Name TS p2] [] pos) (eIsa T fa) := by
  obtain ⟨ta, pa, ka⟩ := ha
  refine ⟨_, pe_callB call_isi hg hm (by decide +kernel) (pa_cons pa (pa_cons (pe_bltn (v := .ty T) hgT hmT hv rfl hn hdb) pa_nil h2) h1) (by decide) (by decide) h1 h3, fun B ca ρ cs Hf σ H Q r h => ?_⟩
  refine op1_run ka r h fun ca2 Hf2 H2 cs2 x da z n2 r2 hx hz h2 => ?_
  cases hz
  exact ⟨x, .ty T, _, _, _, rfl, .ty T, ty_dd hx.1, kit_isa hx.1 hT, h2.ret_ r2 _ (.bl _)⟩
end
end Dn

set_option Elab.async false
set_option linter.all false
set_option maxRecDepth 100000
set_option maxHeartbeats 1000000
/-! Dn5: statements, loops, defs, calls. -/
namespace Dn
open PySem L2
inductive Out where
  | nx (ρ : List S) (cs : Store)
  | rt (r : Rv) (cs : Store)
  | bk (ρ : List S) (cs : Store)
  | ct (ρ : List S) (cs : Store)
  | er (c : Str) (ρ : List S) (cs : Store)
  | no
abbrev G := List S → Store → Out
section
variable (X : Cx) (W : WX)
def GO (B : Hp) (ca : List Addr) (Hf : Hp) (En : Ends) : Out → Prop
  | .nx ρ cs => ∀ ca' Hf' σ' H', Nx ca Hf ca' Hf' → Rel B ca' ρ cs Hf' σ' H' → En.nx σ' H'
  | .rt r cs => ∀ ca' Hf' ρ' σ' H' v, Nx ca Hf ca' Hf' → Rel B ca' ρ' cs Hf' σ' H' → RvOk B ca' Hf' H' r v → En.rt v H'
  | .bk ρ cs => ∀ ca' Hf' σ' H', Nx ca Hf ca' Hf' → Rel B ca' ρ cs Hf' σ' H' → En.bk σ' H'
  | .ct ρ cs => ∀ ca' Hf' σ' H', Nx ca Hf ca' Hf' → Rel B ca' ρ cs Hf' σ' H' → En.ct σ' H'
  | .er c ρ cs => ∀ ca' Hf' σ' H' cls, Nx ca Hf ca' Hf' → Rel B ca' ρ cs Hf' σ' H' → X.mg c = some cls → W cls none σ' H'
  | .no => False
abbrev KS (t : TS) (g : G) : Prop := ∀ (B : Hp) (ca : List Addr) (ρ : List S) (cs : Store) (Hf : Hp) (σ : L2.St) (H : Hp) (En : Ends), Rel B ca ρ cs Hf σ H → GO X W B ca Hf En (g ρ cs) → t En σ H
def DSt (st : Stmt) (g : G) : Prop := ∃ t : TS, PS X st t ∧ KS X W t g
def DSs (st : List Stmt) (g : G) : Prop := ∃ t : TS, PSs X st t ∧ KS X W t g
end
def stp {α : Type} (m : M α) (k : α → Store → Out) (ρ : List S) (cs : Store) : Out := match m cs with
  | .ok a cs' => k a cs'
  | .er c cs' => .er c ρ cs'
  | .no => .no
def gNil : G := fun ρ cs => .nx ρ cs
def gSeq (g h : G) : G := fun ρ cs => match g ρ cs with
  | .nx ρ' cs' => h ρ' cs'
  | o => o
def sSet (i : Nat) (f : List S → M S) : G := fun ρ => stp (f ρ) (fun s cs => .nx (ρ.set i s) cs) ρ
def sNew (i : Nat) (f : List S → M Rv) : G := fun ρ => stp (f ρ) (fun r cs => match r with
  | .own o => .nx (ρ.set i (.cel cs.length)) (cs ++ [o])
  | .d x => .nx (ρ.set i (.d x)) cs
  | .cel j => .nx (ρ.set i (.cel j)) cs) ρ
def sRet (f : List S → M Rv) : G := fun ρ => stp (f ρ) (fun r cs => .rt r cs) ρ
def sRetN : G := fun _ cs => .rt (.d .none) cs
def sExp (f : List S → M S) : G := fun ρ => stp (f ρ) (fun _ cs => .nx ρ cs) ρ
def sIf (t : List S → M Bool) (g h : G) : G := fun ρ => stp (t ρ) (fun b cs => if b = true then g ρ cs else h ρ cs) ρ
def sErr (c : Str) : G := fun ρ cs => .er c ρ cs
def gPass : G := fun ρ cs => .nx ρ cs
def gBrk : G := fun ρ cs => .bk ρ cs
def gCon : G := fun ρ cs => .ct ρ cs
def gNo : G := fun _ _ => .no
section
variable {X : Cx} {W : WX} {B : Hp} {ca ca1 : List Addr} {Hf Hf1 H : Hp} {ρ : List S} {σ : L2.St} {cs : Store} {En En' : Ends} {α : Type}
theorem GO.fwd {o : Out} (h : GO X W B ca Hf En o) (n : Nx ca Hf ca1 Hf1) : GO X W B ca1 Hf1 En o := by
  cases o with
  | nx ρ cs => exact fun ca' Hf' σ' H' n' r => h ca' Hf' σ' H' (n.trans n') r
  | rt v cs => exact fun ca' Hf' ρ' σ' H' v n' r => h ca' Hf' ρ' σ' H' v (n.trans n') r
  | bk ρ cs => exact fun ca' Hf' σ' H' n' r => h ca' Hf' σ' H' (n.trans n') r
  | ct ρ cs => exact fun ca' Hf' σ' H' n' r => h ca' Hf' σ' H' (n.trans n') r
  | er c ρ cs => exact fun ca' Hf' σ' H' cls n' r => h ca' Hf' σ' H' cls (n.trans n') r
  | no => exact h
theorem GO.stp_ {m : M α} {k : α → Store → Out} (h : GO X W B ca Hf En (stp m k ρ cs)) : Gs X W B ca Hf ρ σ (m cs) (fun ca1 Hf1 _ cs1 a => GO X W B ca1 Hf1 En (k a cs1)) := by
  unfold stp at h
  cases e : m cs with
  | ok a cs1 => rw [e] at h; exact fun ca1 Hf1 H1 n r => GO.fwd h n
  | er c cs1 => rw [e] at h; exact fun ca' Hf' H' cls n r => h ca' Hf' σ H' cls n r
  | no => rw [e] at h; exact h
theorem GO.nx_ (h : GO X W B ca Hf En (.nx ρ cs)) (r : Rel B ca ρ cs Hf σ H) : En.nx σ H := h ca Hf σ H Nx.refl r
end
section
variable {X : Cx} {W : WX} {st : Stmt} {sts : List Stmt} {g h : G} {a : Expr} {f : List S → M S} {fr : List S → M Rv} {pos : Pos}
theorem dss_nil : DSs X W [] gNil := ⟨_, pss_nil, fun B ca ρ cs Hf σ H En r h => h.nx_ r⟩
theorem dss_one (hs : DSt X W st g) : DSs X W [st] g := let ⟨t, p, k⟩ := hs; ⟨t, pss_one p, k⟩
theorem dss_cons (hs : DSt X W st g) (ht : DSs X W sts h) : DSs X W (st :: sts) (gSeq g h) := by
  obtain ⟨t, p, k⟩ := hs
  obtain ⟨u, q, l⟩ := ht
  refine ⟨_, pss_cons p q, fun B ca ρ cs Hf σ H En r hg => ?_⟩
  refine k B ca ρ cs Hf σ H { En with nx := u En } r ?_
  unfold gSeq at hg
  cases e : g ρ cs with
  | nx ρ' cs' => rw [e] at hg; exact fun ca' Hf' σ' H' n r' => l B ca' ρ' cs' Hf' σ' H' En r' (GO.fwd hg n)
  | rt v cs' => rw [e] at hg; exact hg
  | bk ρ' cs' => rw [e] at hg; exact hg
  | ct ρ' cs' => rw [e] at hg; exact hg
  | er c ρ' cs' => rw [e] at hg; exact hg
  | no => rw [e] at hg; exact hg
theorem dst_pass : DSt X W (.Pass pos) gPass := ⟨_, ps_pass, fun B ca ρ cs Hf σ H En r h => h.nx_ r⟩
theorem dst_brk : DSt X W (.Break pos) gBrk := ⟨_, ps_break, fun B ca ρ cs Hf σ H En r h => h ca Hf σ H Nx.refl r⟩
theorem dst_con : DSt X W (.Continue pos) gCon := ⟨_, ps_continue, fun B ca ρ cs Hf σ H En r h => h ca Hf σ H Nx.refl r⟩
theorem dst_no : DSt X W st gNo := ⟨_, ps_never, fun B ca ρ cs Hf σ H En r h => h.elim⟩
theorem dst_set (i : Nat) {x : Str} {pos' : Pos} (hN : X.N.Nodup) (ha : DE X W a f) (hi : X.N[i]? = some x := by rfl) (hx : Loc X.env.scope x := by first | exact Or.inl rfl | exact Or.inr rfl) (hs : swapsWith a (some (.Name x pos')) pos.line X.env = pure false := by rfl)
    (hf : X.fn x = true ∨ X.env.scope.names.lookup x = some .local := by first | exact .inl rfl | exact .inr rfl) : DSt X W (.Assign [.Name x pos'] a pos) (sSet i f) := by
  obtain ⟨t, p, k⟩ := ha
  refine ⟨_, ps_set hN hi hx p hs hf, fun B ca ρ cs Hf σ H En r hg => ?_⟩
  refine k B ca ρ cs Hf σ H _ r (hg.stp_.mono fun ca1 Hf1 H1 cs1 s n1 r1 h1 v hv => ?_)
  exact h1.nx_ (r1.set i hv)
theorem dst_new (i : Nat) {x : Str} {pos' : Pos} (hN : X.N.Nodup) (ha : DO X W a fr) (hi : X.N[i]? = some x := by rfl) (hx : Loc X.env.scope x := by first | exact Or.inl rfl | exact Or.inr rfl) (hs : swapsWith a (some (.Name x pos')) pos.line X.env = pure false := by rfl)
    (hf : X.fn x = true ∨ X.env.scope.names.lookup x = some .local := by first | exact .inl rfl | exact .inr rfl) : DSt X W (.Assign [.Name x pos'] a pos) (sNew i fr) := by
  obtain ⟨t, p, k⟩ := ha
  refine ⟨_, ps_set hN hi hx p hs hf, fun B ca ρ cs Hf σ H En r hg => ?_⟩
  refine k B ca ρ cs Hf σ H _ r (hg.stp_.mono fun ca1 Hf1 H1 cs1 rv n1 r1 h1 v hv => ?_)
  cases rv with
  | d x => exact h1.nx_ (r1.set (s := .d x) i hv)
  | cel j => exact h1.nx_ (r1.set (s := .cel j) i hv)
  | own o =>
    obtain ⟨a, rfl, r2, e2⟩ := r1.alloc hv
    exact h1 (ca1 ++ [a]) Hf1 _ H1 ⟨List.prefix_append _ _, fun _ _ h => h⟩ (r2.set (s := .cel cs1.length) i ⟨a, e2, rfl⟩)
theorem dst_ret (ha : DO X W a fr) : DSt X W (.Return (some a) pos) (sRet fr) := by
  obtain ⟨t, p, k⟩ := ha
  refine ⟨_, ps_ret p, fun B ca ρ cs Hf σ H En r hg => ?_⟩
  exact k B ca ρ cs Hf σ H _ r (hg.stp_.mono fun ca1 Hf1 H1 cs1 rv n1 r1 h1 v hv => h1 ca1 Hf1 ρ σ H1 v Nx.refl r1 hv)
theorem dst_retE (ha : DE X W a f) : DSt X W (.Return (some a) pos) (sRet (eRv f)) := dst_ret ha.rv
theorem dst_retN : DSt X W (.Return none pos) sRetN := ⟨_, ps_retN, fun B ca ρ cs Hf σ H En r h => h ca Hf ρ σ H _ Nx.refl r .non⟩
theorem dst_exp (ha : DE X W a f) (hs : swapsWith a none pos.line X.env = pure false := by rfl) : DSt X W (.Expr a pos) (sExp f) := by
  obtain ⟨t, p, k⟩ := ha
  refine ⟨_, ps_expr p hs, fun B ca ρ cs Hf σ H En r hg => ?_⟩
  exact k B ca ρ cs Hf σ H _ r (hg.stp_.mono fun ca1 Hf1 H1 cs1 rv n1 r1 h1 v hv => h1.nx_ r1)
theorem dst_if {t : List S → M Bool} {p q : List Stmt} (hc : DT X W a t) (hp : DSs X W p g) (hq : DSs X W q h) : DSt X W (.If a p q pos) (sIf t g h) := by
  obtain ⟨tc, pc, kc⟩ := hc
  obtain ⟨tp, pp, kp⟩ := hp
  obtain ⟨tq, pq, kq⟩ := hq
  refine ⟨_, ps_if pc pp pq, fun B ca ρ cs Hf σ H En r hg => ?_⟩
  refine kc B ca ρ cs Hf σ H _ r (hg.stp_.mono fun ca1 Hf1 H1 cs1 b n1 r1 h1 => ?_)
  cases b with
  | true => exact kp B ca1 ρ cs1 Hf1 σ H1 En r1 h1
  | false => exact kq B ca1 ρ cs1 Hf1 σ H1 En r1 h1
/-- raise X('..') -/
theorem dst_raise {C : Addr} {x m : Str} {j : Nat} {p p2 p3 : Pos} {bmB : List Value} {Bn newId initId : String} (tk : Takes X W) (F : ExcBaseFacts Bn newId initId bmB) (q : PySem.W.excIn X.K C bmB newId = true) (gC : X.mg x = some (.ref C)) (kC : PySem.W.keepIn X.K (.ref C) = true) (rs : Raises X (.ref C))
    (hc : X.calm = true := by rfl) (hg : Gl X x := by rfl) (hdb : (x == ("__debug__" : Str)) = false := by decide) : DSt X W (.Raise (some (.Call (.Name x p) [.Constant (.str m) j p2] [] p3)) none pos) (sErr x) :=
  ⟨_, ps_raise hc tk (pmk_own F q gC kC rs hg hdb), fun B ca ρ cs Hf σ H En r h => h ca Hf σ H _ Nx.refl r gC⟩
end

/-! ### loops -/
def gFor (tg : D → List S → Option (List S)) (body : G) : List D → G
  | [], ρ, cs => .nx ρ cs
  | x :: xs, ρ, cs => match tg x ρ with
    | none => .no
    | some ρ1 => match body ρ1 cs with
      | .nx ρ' cs' => gFor tg body xs ρ' cs'
      | .ct ρ' cs' => gFor tg body xs ρ' cs'
      | .bk ρ' cs' => .nx ρ' cs'
      | .rt r cs' => .rt r cs'
      | .er c ρ' cs' => .er c ρ' cs'
      | .no => .no
/-- a target -/
def DG (X : Cx) (tg : Expr) (g : D → List S → Option (List S)) : Prop := ∃ t : TG, PG X tg t ∧ ∀ (B : Hp) (ca : List Addr) (ρ ρ' : List S) (cs : Store) (Hf : Hp) (σ : L2.St) (H : Hp) (v : V) (d : D) (Q : L2.St → Hp → Prop), Rel B ca ρ cs Hf σ H → Dd Hf v d → g d ρ = some ρ' →
  (∀ σ', Rel B ca ρ' cs Hf σ' H → Q σ' H) → t v σ H Q
def gtN (i : Nat) (d : D) (ρ : List S) : Option (List S) := some (ρ.set i (.d d))
def gtT (gs : List D → List S → Option (List S)) (d : D) (ρ : List S) : Option (List S) := match d with
  | .tuple xs => gs xs ρ
  | _ => none
def gtsNil (xs : List D) (ρ : List S) : Option (List S) := match xs with
  | [] => some ρ
  | _ => none
def gtsCons (g : D → List S → Option (List S)) (gs : List D → List S → Option (List S)) (xs : List D) (ρ : List S) : Option (List S) := match xs with
  | x :: r => (g x ρ).bind (gs r)
  | [] => none
def DGs (X : Cx) (tgs : List Expr) (g : List D → List S → Option (List S)) : Prop := ∃ t : TGs, PGs X tgs t ∧ ∀ (B : Hp) (ca : List Addr) (ρ ρ' : List S) (cs : Store) (Hf : Hp) (σ : L2.St) (H : Hp) (vs : List V) (ds : List D) (Q : L2.St → Hp → Prop), Rel B ca ρ cs Hf σ H → Dds Hf vs ds → g ds ρ = some ρ' →
  (∀ σ', Rel B ca ρ' cs Hf σ' H → Q σ' H) → t vs σ H Q
section
variable {X : Cx} {pos : Pos}
theorem dg_name (i : Nat) {x : Str} (hN : X.N.Nodup) (hi : X.N[i]? = some x := by rfl) (hx : Loc X.env.scope x := by first | exact Or.inl rfl | exact Or.inr rfl)
    (hf : X.fn x = true ∨ X.env.scope.names.lookup x = some .local := by first | exact .inl rfl | exact .inr rfl) : DG X (.Name x pos) (gtN i) := by
  refine ⟨_, pg_name hN hi hx hf, fun B ca ρ ρ' cs Hf σ H v d Q r hv e q => ?_⟩
  cases e
  exact q _ (r.set i hv)
theorem dgs_nil : DGs X [] gtsNil := by
  refine ⟨_, pgs_nil, fun B ca ρ ρ' cs Hf σ H vs ds Q r hv e q => ?_⟩
  unfold gtsNil at e
  split at e
  · cases e
    cases hv
    exact ⟨rfl, q _ r⟩
  · cases e
theorem dgs_cons {tg : Expr} {tgs : List Expr} {g : D → List S → Option (List S)} {gs : List D → List S → Option (List S)} (h : DG X tg g) (hs : DGs X tgs gs)
    (he : (assignEach (tg :: tgs) X.env).map (·.2) = assign tg X.env :: (assignEach tgs X.env).map (·.2) := by rfl) : DGs X (tg :: tgs) (gtsCons g gs) := by
  obtain ⟨t, p, k⟩ := h
  obtain ⟨u, q, l⟩ := hs
  refine ⟨_, pgs_cons p q he, fun B ca ρ ρ' cs Hf σ H vs ds Q r hv e qq => ?_⟩
  unfold gtsCons at e
  split at e
  · rename_i x xs
    cases hv with
    | cons hv ht =>
      cases z : g x ρ with
      | none => rw [z] at e; cases e
      | some ρ1 =>
        rw [z] at e
        exact ⟨_, _, rfl, k B ca ρ ρ1 cs Hf σ H _ _ _ r hv z fun σ1 r1 => l B ca ρ1 ρ' cs Hf σ1 H _ _ Q r1 ht e qq⟩
  · cases e
theorem dg_tup {es : List Expr} {k : Nat} {gs : List D → List S → Option (List S)} (n : Nat) (hs : DGs X es gs) (hl : ∀ ds ρ ρ', gs ds ρ = some ρ' → ds.length = n) (hc : X.calm = true := by rfl)
    (hn : (assignEach es X.env).length = n := by rfl) (hst : (assignEach es X.env).findIdx? (·.1) = none := by rfl) : DG X (.Tuple es k pos) (gtT gs) := by
  obtain ⟨u, q, l⟩ := hs
  refine ⟨_, pg_tup hc q hn hst, fun B ca ρ ρ' cs Hf σ H v d Q r hv e qq => ?_⟩
  unfold gtT at e
  split at e
  · rename_i xs
    cases hv with
    | tup h1 h2 =>
      exact ⟨_, _, rfl, .inl (rd_ex r.ext h1), (dps_len h2).trans (hl _ _ _ e), l B ca ρ ρ' cs Hf σ H _ _ Q r h2 e qq⟩
  · cases e
end
theorem gts_len0 (ds : List D) (ρ ρ' : List S) (h : gtsNil ds ρ = some ρ') : ds.length = 0 := by
  unfold gtsNil at h
  split at h
  · rfl
  · cases h
theorem gts_lenS {g : D → List S → Option (List S)} {gs : List D → List S → Option (List S)} {n : Nat} (hl : ∀ ds ρ ρ', gs ds ρ = some ρ' → ds.length = n) (ds : List D) (ρ ρ' : List S) (h : gtsCons g gs ds ρ = some ρ') : ds.length = n + 1 := by
  unfold gtsCons at h
  split at h
  · rename_i x r
    cases z : g x ρ with
    | none => rw [z] at h; cases h
    | some ρ1 => rw [z] at h; rw [List.length_cons, hl _ _ _ h]
  · cases h

/-- what is walked: the items are given ahead of the first turn -/
def DI (X : Cx) (W : WX) (tg iter : Expr) (f : List S → M (List D)) : Prop := ∃ wi : TI, PI X tg iter wi ∧ ∀ (B : Hp) (ca : List Addr) (ρ : List S) (cs : Store) (Hf : Hp) (σ : L2.St) (H : Hp) (R : It → Hp → Prop), Rel B ca ρ cs Hf σ H →
  Gs X W B ca Hf ρ σ (f ρ cs) (fun ca' Hf' H' cs' xs => ∀ J, (∀ B2 ca2 ρ2 cs2 Hf2 σ2 H2 (i : Nat), Nx ca' Hf' ca2 Hf2 → Rel B2 ca2 ρ2 cs2 Hf2 σ2 H2 → i ≤ xs.length →
      (i = xs.length → J.stop i H2) ∧ (i < xs.length → J.go i H2 ∧ ∀ x H3, J.yld i H2 x H3 → ∃ Hf3, Nx ca2 Hf2 ca2 Hf3 ∧ Rel B2 ca2 ρ2 cs2 Hf3 σ2 H3 ∧ ∃ d, xs[i]? = some d ∧ Dd Hf3 x d)) → R J H') → wi σ H R
def iSeq (f : List S → M S) (ρ : List S) : M (List D) := bnd (f ρ) fun s => match s with
  | .d (.list xs) => ret xs
  | _ => stuck
def iTupM (f : List S → M S) (ρ : List S) : M (List D) := bnd (f ρ) fun s => match s with
  | .d (.tuple xs) => ret xs
  | _ => stuck
def rngD (lo : Int) (n : Nat) : List D := (List.range n).map fun i => .int (lo + (i : Nat))
def iRng (f : List S → M S) (ρ : List S) : M (List D) := bnd (f ρ) fun s => match s with
  | .d (.int j) => if -(2 ^ 62) ≤ j ∧ j < 2 ^ 62 then ret (rngD 0 j.toNat) else stuck
  | _ => stuck
def iRngTwo (f g : List S → M S) (ρ : List S) : M (List D) := bnd (f ρ) fun s => bnd (g ρ) fun s' => match s, s' with
  | .d (.int i), .d (.int j) => if -(2 ^ 62) ≤ i ∧ i < 2 ^ 62 ∧ -(2 ^ 62) ≤ j ∧ j < 2 ^ 62 then ret (rngD i (j - i).toNat) else stuck
  | _, _ => stuck
theorem rngD_get {lo : Int} {n i : Nat} (h : i < n) : (rngD lo n)[i]? = some (.int (lo + (i : Nat))) := by
  unfold rngD
  rw [List.getElem?_map, List.getElem?_range h]; rfl
theorem rngD_len {lo : Int} {n : Nat} : (rngD lo n).length = n := by unfold rngD; simp
section
variable {X : Cx} {W : WX} {a b tg : Expr} {fa fb : List S → M S} {pos : Pos}
theorem rdl_inj {Hh : Hp} {a : Addr} {xs ys : List V} (h : Rd Hh a (.lst xs)) (h' : SqL X.K Hh a ys) (I : ∀ K : PySem.W.Frag, True) : True := trivial
theorem di_list (ha : DE X W a fa) : DI X W tg a (iSeq fa) := by
  obtain ⟨t, p, k⟩ := ha
  refine ⟨_, pi_list p, fun B ca ρ cs Hf σ H R r h => ?_⟩
  refine k B ca ρ cs Hf σ H _ r (h.bind.mono fun ca1 Hf1 H1 cs1 s n1 r1 h1 v hv => ?_)
  cases s with
  | d x =>
    cases x with
    | list xs =>
      have hv' : Dd Hf1 v (.list xs) := hv
      cases hv' with
      | lst g1 g2 =>
        rename_i l vs
        refine ⟨l, rfl, ⟨vs, .inl (rd_ex r1.ext g1)⟩, ?_⟩
        refine (h1.ret_ r1) _ fun B2 ca2 ρ2 cs2 Hf2 σ2 H2 i n2 r2 hi => ⟨fun e => ⟨vs, .inl (rd_ex (fun a o h => r2.ext a o (n2.ex a o h)) g1), by rw [dps_len g2]; omega⟩, fun hi' => ?_⟩
        have hx : xs[i]? = some xs[i] := by simp [hi']
        obtain ⟨w, e1, e2⟩ := dps_get g2 hx
        refine ⟨⟨vs, w, .inl (rd_ex (fun a o h => r2.ext a o (n2.ex a o h)) g1), e1⟩, fun x H3 y => ?_⟩
        obtain ⟨rfl, y⟩ := y
        have y1 := y vs (.inl (rd_ex (fun a o h => r2.ext a o (n2.ex a o h)) g1))
        rw [e1] at y1
        cases y1
        exact ⟨Hf2, Nx.refl, r2, xs[i], hx, dp_ex n2.ex e2⟩
    | _ => exact h1.elim
  | _ => exact h1.elim
theorem di_tup (ha : DE X W a fa) : DI X W tg a (iTupM fa) := by
  obtain ⟨t, p, k⟩ := ha
  refine ⟨_, pi_tup p, fun B ca ρ cs Hf σ H R r h => ?_⟩
  refine k B ca ρ cs Hf σ H _ r (h.bind.mono fun ca1 Hf1 H1 cs1 s n1 r1 h1 v hv => ?_)
  cases s with
  | d x =>
    cases x with
    | tuple xs =>
      have hv' : Dd Hf1 v (.tuple xs) := hv
      cases hv' with
      | tup g1 g2 =>
        rename_i l vs
        refine ⟨l, rfl, ⟨vs, .inl (rd_ex r1.ext g1)⟩, ?_⟩
        refine (h1.ret_ r1) _ fun B2 ca2 ρ2 cs2 Hf2 σ2 H2 i n2 r2 hi => ⟨fun e => ⟨vs, .inl (rd_ex (fun a o h => r2.ext a o (n2.ex a o h)) g1), by rw [dps_len g2]; omega⟩, fun hi' => ?_⟩
        have hx : xs[i]? = some xs[i] := by simp [hi']
        obtain ⟨w, e1, e2⟩ := dps_get g2 hx
        refine ⟨⟨vs, w, .inl (rd_ex (fun a o h => r2.ext a o (n2.ex a o h)) g1), e1⟩, fun x H3 y => ?_⟩
        obtain ⟨rfl, y⟩ := y
        have y1 := y vs (.inl (rd_ex (fun a o h => r2.ext a o (n2.ex a o h)) g1))
        rw [e1] at y1
        cases y1
        exact ⟨Hf2, Nx.refl, r2, xs[i], hx, dp_ex n2.ex e2⟩
    | _ => exact h1.elim
  | _ => exact h1.elim
theorem di_rng {p : Pos} (ha : DE X W a fa) (hm : X.mg "range" = none) (hg : Gl X "range" := by rfl) (hs : starEach [a] X.env = [(false, eval a X.env)] := by rfl) : DI X W tg (.Call (.Name "range" p) [a] [] pos) (iRng fa) := by
  obtain ⟨t, q, k⟩ := ha
  refine ⟨_, pi_range1 hg hm (pa_cons q pa_nil hs) hs, fun B ca ρ cs Hf σ H R r h => ?_⟩
  refine k B ca ρ cs Hf σ H _ r (h.bind.mono fun ca1 Hf1 H1 cs1 s n1 r1 h1 v hv => ?_)
  cases s with
  | d x =>
    cases x with
    | int j =>
      have hv' : Dd Hf1 v (.int j) := hv
      cases hv'
      have h2 : Gs X W B ca1 Hf1 ρ σ ((if -(2 ^ 62) ≤ j ∧ j < 2 ^ 62 then ret (rngD 0 j.toNat) else stuck) cs1) _ := h1
      split at h2
      · rename_i hz
        refine ⟨j, rfl, hz.1, hz.2, ?_⟩
        refine (h2.ret_ r1) _ fun B2 ca2 ρ2 cs2 Hf2 σ2 H2 i n2 r2 hi => ⟨fun e => ?_, fun hi' => ?_⟩
        · rw [rngD_len] at e; exact Nat.le_of_eq e.symm
        · rw [rngD_len] at hi'
          refine ⟨hi', fun x H3 y => ?_⟩
          obtain ⟨rfl, rfl⟩ := y
          exact ⟨Hf2, Nx.refl, r2, _, rngD_get hi', .int _⟩
      · exact h2.elim
    | _ => exact h1.elim
  | _ => exact h1.elim
theorem di_rng2 {p : Pos} (ha : DE X W a fa) (hb : DE X W b fb) (hm : X.mg "range" = none) (hg : Gl X "range" := by rfl) (hs : starEach [a, b] X.env = [(false, eval a X.env), (false, eval b X.env)] := by rfl) (hs2 : starEach [b] X.env = [(false, eval b X.env)] := by rfl) :
    DI X W tg (.Call (.Name "range" p) [a, b] [] pos) (iRngTwo fa fb) := by
  obtain ⟨t, q, k⟩ := ha
  obtain ⟨t', q', k'⟩ := hb
  refine ⟨_, pi_range2 hg hm (pa_cons q (pa_cons q' pa_nil hs2) (by rw [hs, hs2])) hs hs2, fun B ca ρ cs Hf σ H R r h => ?_⟩
  refine k B ca ρ cs Hf σ H _ r (h.bind.mono fun ca1 Hf1 H1 cs1 s n1 r1 h1 v hv => ?_)
  refine k' B ca1 ρ cs1 Hf1 σ H1 _ r1 (h1.bind.mono fun ca2 Hf2 H2 cs2 s' n2 r2 h2 v' hv' => ?_)
  cases s with
  | d x =>
    cases x with
    | int i =>
      cases s' with
      | d x' =>
        cases x' with
        | int j =>
          have hv1 : Dd Hf1 v (.int i) := hv
          cases hv1
          have hv2 : Dd Hf2 v' (.int j) := hv'
          cases hv2
          have h3 : Gs X W B ca2 Hf2 ρ σ ((if -(2 ^ 62) ≤ i ∧ i < 2 ^ 62 ∧ -(2 ^ 62) ≤ j ∧ j < 2 ^ 62 then ret (rngD i (j - i).toNat) else stuck) cs2) _ := h2
          split at h3
          · rename_i hz
            refine ⟨i, j, rfl, hz, ?_⟩
            refine (h3.ret_ r2) _ fun B3 ca3 ρ3 cs3 Hf3 σ3 H3 m n3 r3 hm => ⟨fun e => ?_, fun hm' => ?_⟩
            · rw [rngD_len] at e; exact Nat.le_of_eq e.symm
            · rw [rngD_len] at hm'
              refine ⟨hm', fun x H4 y => ?_⟩
              obtain ⟨rfl, rfl⟩ := y
              exact ⟨Hf3, Nx.refl, r3, _, rngD_get hm', .int _⟩
          · exact h3.elim
        | _ => exact h2.elim
      | _ => exact h2.elim
    | _ => exact h2.elim
  | _ => exact h2.elim
def sFor (tg : D → List S → Option (List S)) (it : List S → M (List D)) (body : G) : G := fun ρ => stp (it ρ) (fun xs cs => gFor tg body xs ρ cs) ρ
theorem dst_for {body : List Stmt} {g : D → List S → Option (List S)} {it : List S → M (List D)} {gb : G} (hp : PassesOwn (model X.prog X.w) X.A X.env X.xe) (hi : DI X W tg a it) (hg : DG X tg g) (hb : DSs X W body gb) (hc : X.calm = true := by rfl)
    (hs : ∀ x, foldedSetIterable a X.env x = pure x := by intro _; rfl) : DSt X W (.For tg a body [] pos) (sFor g it gb) := by
  obtain ⟨wi, pi, ki⟩ := hi
  obtain ⟨tgt, pg, kg⟩ := hg
  obtain ⟨tb, pb, kb⟩ := hb
  refine ⟨_, ps_for hp hc pi pg pb hs, fun B ca ρ cs Hf σ H En r h => ?_⟩
  refine ki B ca ρ cs Hf σ H _ r (h.stp_.mono fun ca1 Hf1 H1 cs1 xs n1 r1 h1 J hJ => ?_)
  refine ⟨fun i m σ2 H2 => m = xs.length - i ∧ i ≤ xs.length ∧ ∃ ca2 ρ2 cs2 Hf2, Nx ca1 Hf1 ca2 Hf2 ∧ Rel B ca2 ρ2 cs2 Hf2 σ2 H2 ∧ GO X W B ca2 Hf2 En (gFor g gb (xs.drop i) ρ2 cs2), ⟨xs.length, by simp, Nat.zero_le _, ca1, ρ, cs1, Hf1, Nx.refl, r1, h1⟩, ?_⟩
  rintro i m σ2 H2 ⟨rfl, hi, ca2, ρ2, cs2, Hf2, n2, r2, h2⟩
  obtain ⟨hstop, hgo⟩ := hJ B ca2 ρ2 cs2 Hf2 σ2 H2 i n2 r2 hi
  by_cases hlt : i < xs.length
  · obtain ⟨go, yl⟩ := hgo hlt
    refine .inr ⟨go, fun σ' H' => i + 1 ≤ xs.length ∧ ∃ ca2 ρ2 cs2 Hf2, Nx ca1 Hf1 ca2 Hf2 ∧ Rel B ca2 ρ2 cs2 Hf2 σ' H' ∧ GO X W B ca2 Hf2 En (gFor g gb (xs.drop (i + 1)) ρ2 cs2), fun σ' H' p' => ⟨xs.length - (i + 1), by omega, rfl, p'.1, p'.2⟩, fun x H3 y => ?_⟩
    obtain ⟨Hf3, n3, r3, d, ed, hd⟩ := yl x H3 y
    have ed' : xs.drop i = d :: xs.drop (i + 1) := by
      rw [List.drop_eq_getElem_cons hlt]
      rw [List.getElem?_eq_getElem hlt] at ed
      rw [Option.some.inj ed]
    rw [ed'] at h2
    have h2' : GO X W B ca2 Hf2 En (match g d ρ2 with
      | none => .no
      | some ρ1 => match gb ρ1 cs2 with
        | .nx ρ' cs' => gFor g gb (xs.drop (i + 1)) ρ' cs'
        | .ct ρ' cs' => gFor g gb (xs.drop (i + 1)) ρ' cs'
        | .bk ρ' cs' => .nx ρ' cs'
        | .rt r cs' => .rt r cs'
        | .er c ρ' cs' => .er c ρ' cs'
        | .no => .no) := h2
    cases eg : g d ρ2 with
    | none => rw [eg] at h2'; exact h2'.elim
    | some ρ1 =>
      rw [eg] at h2'
      have h3 : GO X W B ca2 Hf2 En (match gb ρ1 cs2 with
        | .nx ρ' cs' => gFor g gb (xs.drop (i + 1)) ρ' cs'
        | .ct ρ' cs' => gFor g gb (xs.drop (i + 1)) ρ' cs'
        | .bk ρ' cs' => .nx ρ' cs'
        | .rt r cs' => .rt r cs'
        | .er c ρ' cs' => .er c ρ' cs'
        | .no => .no) := h2'
      refine kg B ca2 ρ2 ρ1 cs2 Hf3 σ2 H3 x d _ r3 hd eg fun σ4 r4 => ?_
      refine kb B ca2 ρ1 cs2 Hf3 σ4 H3 _ r4 ?_
      have h4 := GO.fwd h3 n3
      cases eb : gb ρ1 cs2 with
      | nx ρ' cs' => rw [eb] at h4; exact fun ca' Hf' σ' H' n' r' => ⟨hlt, ca', ρ', cs', Hf', (n2.trans n3).trans n', r', GO.fwd h4 n'⟩
      | ct ρ' cs' => rw [eb] at h4; exact fun ca' Hf' σ' H' n' r' => ⟨hlt, ca', ρ', cs', Hf', (n2.trans n3).trans n', r', GO.fwd h4 n'⟩
      | bk ρ' cs' => rw [eb] at h4; exact fun ca' Hf' σ' H' n' r' => h4 ca' Hf' σ' H' n' r'
      | rt v cs' => rw [eb] at h4; exact h4
      | er c ρ' cs' => rw [eb] at h4; exact h4
      | no => rw [eb] at h4; exact h4.elim
  · have e : i = xs.length := by omega
    refine .inl ⟨hstop e, ?_⟩
    rw [e, List.drop_length] at h2
    exact GO.nx_ (show GO X W B ca2 Hf2 En (.nx ρ2 cs2) from h2) r2
def gWhile (t : List S → M Bool) (body : G) : Nat → G
  | 0, _, _ => .no
  | n + 1, ρ, cs => stp (t ρ) (fun b cs => if b = true then (match body ρ cs with
      | .nx ρ' cs' => gWhile t body n ρ' cs'
      | .ct ρ' cs' => gWhile t body n ρ' cs'
      | .bk ρ' cs' => .nx ρ' cs'
      | .rt r cs' => .rt r cs'
      | .er c ρ' cs' => .er c ρ' cs'
      | .no => .no) else .nx ρ cs) ρ cs
/-- the fuel may be any number -/
def sWhile (fuel : List S → Store → Nat) (t : List S → M Bool) (body : G) : G := fun ρ cs => gWhile t body (fuel ρ cs) ρ cs
theorem dst_while (fuel : List S → Store → Nat) {body : List Stmt} {t : List S → M Bool} {gb : G} (hp : PassesOwn (model X.prog X.w) X.A X.env X.xe) (hc : DT X W a t) (hb : DSs X W body gb) : DSt X W (.While a body [] pos) (sWhile fuel t gb) := by
  obtain ⟨tc, pc, kc⟩ := hc
  obtain ⟨tb, pb, kb⟩ := hb
  refine ⟨_, ps_while hp pc pb, fun B ca ρ cs Hf σ H En r h => ?_⟩
  refine ⟨fun m σ2 H2 => ∃ ca2 ρ2 cs2 Hf2, Rel B ca2 ρ2 cs2 Hf2 σ2 H2 ∧ GO X W B ca2 Hf2 En (gWhile t gb m ρ2 cs2), ⟨_, ca, ρ, cs, Hf, r, h⟩, ?_⟩
  rintro m σ2 H2 ⟨ca2, ρ2, cs2, Hf2, r2, h2⟩
  cases m with
  | zero => exact (show False from h2).elim
  | succ m =>
    have h2' : GO X W B ca2 Hf2 En (stp (t ρ2) (fun b cs => if b = true then (match gb ρ2 cs with
      | .nx ρ' cs' => gWhile t gb m ρ' cs'
      | .ct ρ' cs' => gWhile t gb m ρ' cs'
      | .bk ρ' cs' => .nx ρ' cs'
      | .rt r cs' => .rt r cs'
      | .er c ρ' cs' => .er c ρ' cs'
      | .no => .no) else .nx ρ2 cs) ρ2 cs2) := h2
    refine kc B ca2 ρ2 cs2 Hf2 σ2 H2 _ r2 (h2'.stp_.mono fun ca3 Hf3 H3 cs3 b n3 r3 h3 => ?_)
    cases b with
    | false => exact GO.nx_ (show GO X W B ca3 Hf3 En (.nx ρ2 cs3) from h3) r3
    | true =>
      have h4 : GO X W B ca3 Hf3 En (match gb ρ2 cs3 with
        | .nx ρ' cs' => gWhile t gb m ρ' cs'
        | .ct ρ' cs' => gWhile t gb m ρ' cs'
        | .bk ρ' cs' => .nx ρ' cs'
        | .rt r cs' => .rt r cs'
        | .er c ρ' cs' => .er c ρ' cs'
        | .no => .no) := h3
      refine ⟨fun σ' H' => ∃ ca2 ρ2 cs2 Hf2, Rel B ca2 ρ2 cs2 Hf2 σ' H' ∧ GO X W B ca2 Hf2 En (gWhile t gb m ρ2 cs2), fun σ' H' p' => ⟨m, Nat.lt_succ_self _, p'⟩, ?_⟩
      refine kb B ca3 ρ2 cs3 Hf3 σ2 H3 _ r3 ?_
      cases eb : gb ρ2 cs3 with
      | nx ρ' cs' => rw [eb] at h4; exact fun ca' Hf' σ' H' n' r' => ⟨ca', ρ', cs', Hf', r', GO.fwd h4 n'⟩
      | ct ρ' cs' => rw [eb] at h4; exact fun ca' Hf' σ' H' n' r' => ⟨ca', ρ', cs', Hf', r', GO.fwd h4 n'⟩
      | bk ρ' cs' => rw [eb] at h4; exact fun ca' Hf' σ' H' n' r' => h4 ca' Hf' σ' H' n' r'
      | rt v cs' => rw [eb] at h4; exact h4
      | er c ρ' cs' => rw [eb] at h4; exact h4
      | no => rw [eb] at h4; exact h4.elim
end
end Dn

set_option Elab.async false
set_option linter.all false
set_option maxRecDepth 100000
set_option maxHeartbeats 1000000
/-! Dn6: cells changed by methods and stores; defs and their calls. -/
namespace Dn
open PySem L2
/-- a method that changes the list of a cell: the answer, the new items -/
def rMt (g : List D → List D → Option (D × List D)) : V → List V → Hp → VK → Prop := fun x vs H Q => ∃ Hf l ws xs ds d ys, g xs ds = some (d, ys) ∧ Ex Hf H ∧ x = .ref l ∧ H l = some (.lst ws) ∧ Dds Hf ws xs ∧ Dds Hf vs ds ∧ xs.length ≤ sizeLine ∧
  ∀ v us, Dd Hf v d → Dds Hf us ys → Q v (upd H l (.lst us))
def celM (s : S) : M (Nat × List D) := fun cs => match s with
  | .cel j => match cs[j]? with
    | some (.lst xs) => .ok (j, xs) cs
    | _ => .no
  | _ => .no
def putM (j : Nat) (o : OC) : M Unit := fun cs => .ok () (cs.set j o)
def fin_ (g : List D → List D → Option (D × List D)) (s : S) (ss : List S) : M S :=
  bnd (celM s) fun p => bnd (ofO (asD ss)) fun ds => bnd (ofO (if p.2.length ≤ sizeLine then g p.2 ds else none)) fun q => bnd (putM p.1 (.lst q.2)) fun _ => ret (.d q.1)
def eMt (g : List D → List D → Option (D × List D)) (fo : List S → M S) (fa : List S → M (List S)) (ρ : List S) : M S := bnd (fo ρ) fun s => bnd (celM s) fun _ => bnd (fa ρ) fun ss => fin_ g s ss
def eMt0 (g : List D → List D → Option (D × List D)) (fo : List S → M S) (ρ : List S) : M S := bnd (fo ρ) fun s => fin_ g s []
def appG : List D → List D → Option (D × List D)
  | xs, [d] => if xs.length < sizeLine then some (.none, xs ++ [d]) else none
  | _, _ => none
def extG : List D → List D → Option (D × List D)
  | xs, [.list ys] => if xs.length + ys.length ≤ sizeLine then some (.none, xs ++ ys) else none
  | _, _ => none
def popG : List D → List D → Option (D × List D)
  | xs, [] => (xs[xs.length - 1]?).map fun d => (d, xs.dropLast)
  | _, _ => none
section
variable {X : Cx} {W : WX} {B : Hp} {ca : List Addr} {Hf H : Hp} {ρ : List S} {σ : L2.St} {cs : Store} {β : Type} {P : List Addr → Hp → Hp → Store → β → Prop}
theorem celM_ {a : S} {k : Nat × List D → M β} (h : Gs X W B ca Hf ρ σ (bnd (celM a) k cs) P) : ∃ j xs, a = .cel j ∧ cs[j]? = some (.lst xs) ∧ Gs X W B ca Hf ρ σ (k (j, xs) cs) P := by
  unfold bnd celM at h
  cases a with
  | cel j =>
    cases e : cs[j]? with
    | none => simp only [e] at h; exact h.elim
    | some o =>
      cases o with
      | lst xs => simp only [e] at h; exact ⟨j, xs, rfl, e, h⟩
      | dK _ => simp only [e] at h; exact h.elim
  | _ => exact h.elim
end
section
variable {X : Cx} {W : WX} {o e : Expr} {es : List Expr} {fo fb : List S → M S} {fa : List S → M (List S)} {name : Str} {id : String} {apos cpos pos : Pos} {g : List D → List D → Option (D × List D)}
theorem ty_cel {B : Hp} {ca : List Addr} {ρ : List S} {cs : Store} {Hf : Hp} {σ : L2.St} {H : Hp} {j : Nat} {xs : List D} {x : V} (r : Rel B ca ρ cs Hf σ H) (hx : SvOk ca Hf (.cel j) x) (e : cs[j]? = some (.lst xs)) :
    ∃ l ws, x = .ref l ∧ ca[j]? = some l ∧ H l = some (.lst ws) ∧ Dds Hf ws xs := by
  obtain ⟨l, h1, rfl⟩ := hx
  obtain ⟨ws, g1, g2⟩ := r.cell e h1
  exact ⟨l, ws, rfl, h1, g1, g2⟩
theorem fin_run {B : Hp} {ca : List Addr} {ρ : List S} {cs : Store} {Hf : Hp} {σ : L2.St} {H : Hp} {Q : VK} {s : S} {ss : List S} {x : V} {vs : List V} (r : Rel B ca ρ cs Hf σ H) (hx : SvOk ca Hf s x) (hv : SvsOk ca Hf ss vs)
    (h : Gs X W B ca Hf ρ σ (fin_ g s ss cs) (fun ca' Hf' H' _ s => ∀ v, SvOk ca' Hf' s v → Q v H')) : rMt g x vs H Q := by
  obtain ⟨j, xs, rfl, e1, h1⟩ := celM_ h
  obtain ⟨ds, e2, h2⟩ := ofOb_ h1
  obtain ⟨q, e3, h3⟩ := ofOb_ h2
  obtain ⟨l, ws, rfl, c1, c2, c3⟩ := ty_cel r hx e1
  dsimp only at e3
  split at e3
  · rename_i hz
    refine ⟨Hf, l, ws, xs, ds, q.1, q.2, e3, r.ext, rfl, c2, c3, asD_dds e2 hv, hz, fun v us hd hu => ?_⟩
    have r2 : Rel B ca ρ (cs.set j (.lst q.2)) Hf σ (upd H l (.lst us)) := r.write c1 ⟨us, upd_same, hu⟩
    exact h3 ca Hf _ Nx.refl r2 v hd
  · cases e3
theorem eMt_run {to : TE} {t : TA} (ko : KE X W to fo) (kt : KA X W t fa) {B : Hp} {ca : List Addr} {ρ : List S} {cs : Store} {Hf : Hp} {σ : L2.St} {H : Hp} {Q : VK} (r : Rel B ca ρ cs Hf σ H)
    (h : Gs X W B ca Hf ρ σ (eMt g fo fa ρ cs) (fun ca' Hf' H' _ s => ∀ v, SvOk ca' Hf' s v → Q v H')) : tBM X.K "list" (rMt g) to t σ H Q := by
  refine ko B ca ρ cs Hf σ H _ r (h.bind.mono fun ca1 Hf1 H1 cs1 s n1 r1 h1 x hx => ?_)
  obtain ⟨j, xs, rfl, e1, h2⟩ := celM_ h1
  obtain ⟨l, ws, rfl, c1, c2, c3⟩ := ty_cel r1 hx e1
  refine ⟨.inl ⟨rfl, ws, .inl (.inl c2)⟩, ?_⟩
  exact kt B ca1 ρ cs1 Hf1 σ H1 _ r1 (h2.bind.mono fun ca2 Hf2 H2 cs2 ss n2 r2 h3 vs hvs => fin_run r2 (hx.nx n2) hvs h3)
theorem eMt0_run {to : TE} (ko : KE X W to fo) {B : Hp} {ca : List Addr} {ρ : List S} {cs : Store} {Hf : Hp} {σ : L2.St} {H : Hp} {Q : VK} (r : Rel B ca ρ cs Hf σ H)
    (h : Gs X W B ca Hf ρ σ (eMt0 g fo ρ cs) (fun ca' Hf' H' _ s => ∀ v, SvOk ca' Hf' s v → Q v H')) : tBM0 X.K "list" (rMt g) to σ H Q := by
  refine ko B ca ρ cs Hf σ H _ r (h.bind.mono fun ca1 Hf1 H1 cs1 s n1 r1 h1 x hx => ?_)
  have h1' := h1
  obtain ⟨j, xs, rfl, e1, h2⟩ := celM_ h1
  obtain ⟨l, ws, rfl, c1, c2, c3⟩ := ty_cel r1 hx e1
  exact ⟨.inl ⟨rfl, ws, .inl (.inl c2)⟩, fin_run r1 hx .nil h1'⟩
theorem de_mt (slot : Slot "list" name id) (hty : typeOf (.builtin id) = pure (.type "method_descriptor")) (hm : MtR X id (rMt g)) (ho : DE X W o fo) (ha : DA X W (e :: es) fa)
    (hbase : attributeBase o name X.env (eval o X.env) = eval o X.env := by rfl)
    (hfew : ((backTo cpos (starEach (e :: es) X.env)).all (fun x => !x.1) && (backToKw cpos (keywordEach [] X.env)).all (fun x => x.1.isSome)
      && decide ((e :: es).length + ([] : List Keyword).length + (if ([] : List Keyword).isEmpty then 0 else 1) < 30)) = true := by rfl)
    (hline : (apos.endLine == cpos.line) = true := by rfl) (hs : starEach (e :: es) X.env = (false, eval e X.env) :: starEach es X.env := by rfl) (hplain : (backTo cpos (starEach es X.env)).any (·.1) = false := by rfl) :
    DE X W (.Call (.Attribute o name apos) (e :: es) [] cpos) (eMt g fo fa) := by
  obtain ⟨to, po, ko⟩ := ho
  obtain ⟨t, p, k⟩ := ha
  exact ⟨_, pe_bm PySem.F.plainAttrs_list slot hty hm po p hbase hfew hline hs hplain, fun B ca ρ cs Hf σ H Q r h => eMt_run ko k r h⟩
theorem de_mt0 (slot : Slot "list" name id) (hty : typeOf (.builtin id) = pure (.type "method_descriptor")) (hm : MtR X id (rMt g)) (ho : DE X W o fo)
    (hbase : attributeBase o name X.env (eval o X.env) = eval o X.env := by rfl) (hline : (apos.endLine == cpos.line) = true := by rfl) :
    DE X W (.Call (.Attribute o name apos) [] [] cpos) (eMt0 g fo) := by
  obtain ⟨to, po, ko⟩ := ho
  exact ⟨_, pe_bm0 PySem.F.plainAttrs_list slot hty hm po hbase hline, fun B ca ρ cs Hf σ H Q r h => eMt0_run ko r h⟩
theorem dds_one {Hf : Hp} {vs : List V} {d : D} (h : Dds Hf vs [d]) : ∃ v, vs = [v] ∧ Dd Hf v d := by
  cases h with
  | cons h t => cases t; exact ⟨_, rfl, h⟩
theorem dds_two {Hf : Hp} {vs : List V} {d d' : D} (h : Dds Hf vs [d, d']) : ∃ v v', vs = [v, v'] ∧ Dd Hf v d ∧ Dd Hf v' d' := by
  cases h with
  | cons h t =>
    obtain ⟨v', rfl, h'⟩ := dds_one t
    exact ⟨_, _, rfl, h, h'⟩
theorem app_ok : MtR X "list.append" (rMt appG) := by
  intro pins s σ H x vs v us Q I rx rv h
  obtain ⟨Hf, l, ws, xs, ds, d, ys, e, ex, rfl, c2, c3, hl, hz, q⟩ := h
  unfold appG at e
  split at e
  · rename_i d0
    split at e
    · rename_i hlt
      cases e
      obtain ⟨y, rfl, hy⟩ := dds_one hl
      exact mt_append pins s σ H _ _ v us Q I rx rv ⟨l, ws, y, rfl, rfl, c2, by rw [dps_len c3]; exact hlt, q _ _ .non (dps_app c3 (.cons hy .nil))⟩
    · cases e
  · cases e
theorem ext_ok : MtR X "list.extend" (rMt extG) := by
  intro pins s σ H x vs v us Q I rx rv h
  obtain ⟨Hf, l, ws, xs, ds, d, ys, e, ex, rfl, c2, c3, hl, hz, q⟩ := h
  unfold extG at e
  split at e
  · rename_i zs
    split at e
    · rename_i hlt
      cases e
      obtain ⟨y, rfl, hy⟩ := dds_one hl
      cases hy with
      | lst g1 g2 =>
        rename_i b vs2
        cases rx
        obtain ⟨u, rfl, ru⟩ := rv.one
        cases ru
        have l1 := dps_len c3
        have l2 := dps_len g2
        obtain ⟨z, its, n, r, hl, e⟩ := I.lstM c2
        obtain ⟨z2, its2, n2, r2, hl2, e2⟩ := Inv.rdl I (rd_ex ex g1)
        have hsz : its.toArray.size + its2.toArray.size ≤ sizeLine := by rw [List.size_toArray, List.size_toArray]; omega
        have hlong : ¬ (!its.toArray.isEmpty && Builtin.List.listTooLong (its.toArray.size + its2.toArray.size)) = true := by
          rw [notLongL hsz, Bool.and_false]
          exact Bool.false_ne_true
        refine PySem.call_meets PySem.F.slot_list_extend ⟨_, e, rfl⟩ PySem.F.entry_list_extend (PySem.F.args_list_extend_2 _ _)
          (AutoSeq1.list_extend_list_list_0 l its.toArray n b its2.toArray n2 hlong (by rw [List.size_toArray]; omega) (by omega)) ⟨e, e2, ?_⟩
        refine ⟨.non, _, I.lset (its' := its ++ its2) c2 e (by simp) (r.append r2) ?_, rfl, q _ _ .non (dps_app c3 g2)⟩
        rw [List.length_append]
        omega
    · cases e
  · cases e
theorem pop_ok : MtR X "list.pop" (rMt popG) := by
  intro pins s σ H x vs v us Q I rx rv h
  obtain ⟨Hf, l, ws, xs, ds, d, ys, e, ex, rfl, c2, c3, hl, hz, q⟩ := h
  unfold popG at e
  split at e
  · cases z : xs[xs.length - 1]? with
    | none => rw [z] at e; cases e
    | some d0 =>
      rw [z] at e
      cases e
      cases hl
      obtain ⟨y, k1, k2⟩ := dps_get c3 z
      exact mt_pop pins s σ H _ _ v us Q I rx rv ⟨l, ws, y, rfl, rfl, c2, by rw [dps_len c3]; exact k1, q _ _ k2 (dps_dropLast c3)⟩
  · cases e
end
/-- xs[i] = e, xs a cell -/
def sSub (fo fi fe : List S → M S) : G := fun ρ => stp (bnd (fe ρ) fun e => bnd (fo ρ) fun o => bnd (fi ρ) fun i => bnd (celM o) fun p => match e, i with
  | .d x, .d (.int k) => bnd (ofO (ixN p.2.length k)) fun j => putM p.1 (.lst (p.2.set j x))
  | _, _ => stuck) (fun _ cs => .nx ρ cs) ρ
section
variable {X : Cx} {W : WX} {o i e : Expr} {fo fi fe : List S → M S} {pos pos' : Pos}
theorem dst_sub (he : DE X W e fe) (ho : DE X W o fo) (hi : DE X W i fi)
    (ha : ∀ v, assign (.Subscript o i pos') X.env v = (do
      let ov ← holding [v] (eval o X.env)
      let iv ← holding [v, ov] (eval i X.env)
      standAt pos'
      holding [v, ov, iv] (setItem ov iv v)
      release [v, ov, iv] []) := by intro _; rfl)
    (hs : swapsWithSole [.Subscript o i pos'] e pos.line X.env = pure false := by rfl) (hw : swappedStores [.Subscript o i pos'] e X.env = pure none := by rfl)
    (h1 : (assignEach [.Subscript o i pos'] X.env).map (·.2) = [assign (.Subscript o i pos') X.env] := by rfl) : DSt X W (.Assign [.Subscript o i pos'] e pos) (sSub fo fi fe) := by
  obtain ⟨te, pe, ke⟩ := he
  obtain ⟨to, po, ko⟩ := ho
  obtain ⟨ti, pi, ki⟩ := hi
  refine ⟨_, ps_asg pe (pg_sub po pi set_list ha) hs hw h1, fun B ca ρ cs Hf σ H En r hg => ?_⟩
  refine ke B ca ρ cs Hf σ H _ r (hg.stp_.bind.mono fun ca1 Hf1 H1 cs1 s1 n1 r1 h1 v hv => ?_)
  refine ko B ca1 ρ cs1 Hf1 σ H1 _ r1 (h1.bind.mono fun ca2 Hf2 H2 cs2 s2 n2 r2 h2 x hx => ?_)
  refine ki B ca2 ρ cs2 Hf2 σ H2 _ r2 (h2.bind.mono fun ca3 Hf3 H3 cs3 s3 n3 r3 h3 y hy => ?_)
  obtain ⟨j, xs, rfl, e1, h4⟩ := celM_ h3
  obtain ⟨l, ws, rfl, c1, c2, c3⟩ := ty_cel r3 (hx.nx n3) e1
  cases s1 with
  | d z =>
    cases s3 with
    | d w =>
      cases w with
      | int k =>
        have hy' : Dd Hf3 y (.int k) := hy
        cases hy'
        have h5 : Gs X W B ca3 Hf3 ρ σ (bnd (ofO (ixN xs.length k)) (fun m => putM j (.lst (xs.set m z))) cs3) _ := h4
        obtain ⟨m, e2, h6⟩ := ofOb_ h5
        have hz : Dd Hf3 v z := dp_ex n3.ex (dp_ex n2.ex hv)
        refine ⟨l, ws, k, m, rfl, rfl, c2, by rw [dps_len c3]; exact e2, ?_⟩
        have r4 : Rel B ca3 ρ (cs3.set j (.lst (xs.set m z))) Hf3 σ (upd H3 l (.lst (ws.set m v))) := r3.write c1 ⟨_, upd_same, dps_set m c3 hz⟩
        exact GO.nx_ (h6 ca3 Hf3 _ Nx.refl r4) r4
      | _ => exact h4.elim
    | _ => exact h4.elim
  | _ => exact h4.elim
end

/-! ### defs -/
def fin (n : Nat) : Out → Res Rv
  | .nx _ cs => .ok (.d .none) (cs.take n)
  | .rt (.cel j) cs => if j < n then .ok (.cel j) (cs.take n) else match cs[j]? with
    | some o => .ok (.own o) (cs.take n)
    | none => .no
  | .rt r cs => .ok r (cs.take n)
  | .er c _ cs => .er c (cs.take n)
  | _ => .no
/-- a def's mirror by its body's -/
def runG (m : Nat) (g : G) (ss : List S) : M Rv := fun cs => fin cs.length (g (ss ++ List.replicate m .no) cs)
/-- a def's promise: it does what F says -/
def spE (mg : Str → Option Value) (n : Nat) (F : List S → M Rv) : Sp := fun vs H Q E => vs.length = n ∧ ∃ B ca cs Hf ss, Rel B ca ss cs Hf (vs.map some) H ∧ match F ss cs with
  | .ok r cs' => ∀ Hf' H' v, Ex Hf Hf' → Rel B ca ss cs' Hf' (vs.map some) H' → RvOk B ca Hf' H' r v → Q v H'
  | .er c cs' => ∀ Hf' H' cls, Ex Hf Hf' → Rel B ca ss cs' Hf' (vs.map some) H' → mg c = some cls → E cls none H'
  | .no => False
theorem Rel.cut {B : Hp} {ca ca' : List Addr} {ρ ρ' : List S} {cs cs' : Store} {Hf Hf' : Hp} {σ σ' : L2.St} {H H' : Hp} (r0 : Rel B ca ρ cs Hf σ H) (n : Nx ca Hf ca' Hf') (r : Rel B ca' ρ' cs' Hf' σ' H') : Rel B ca ρ (cs'.take cs.length) Hf' σ H' := by
  obtain ⟨t, ht⟩ := n.pre
  have hlen : ca.length = cs.length := r0.lenc
  have hlen' : ca'.length = cs'.length := r.lenc
  have hle : ca.length ≤ ca'.length := by rw [← ht, List.length_append]; omega
  refine ⟨r.ext, r0.len, fun i s e => ?_, fun j o e => ?_, ?_, r0.nd, fun a m => r.off a (n.pre.subset m), r.exb, fun a m => ⟨(r.dis a m).1, fun z => (r.dis a m).2 (n.pre.subset z)⟩⟩
  · rcases r0.sl i s e with z | ⟨v, h1, h2⟩
    · exact .inl z
    · refine .inr ⟨v, h1, ?_⟩
      cases s with
      | no => exact h2
      | d x => exact dp_ex n.ex h2
      | fn a => exact h2
      | cel j => exact h2
  · have hj : j < cs.length := by
      have := (List.getElem?_eq_some_iff.mp e).1
      rw [List.length_take] at this
      omega
    rw [List.getElem?_take_of_lt hj] at e
    obtain ⟨a, g1, g2⟩ := r.cells j o e
    refine ⟨a, ?_, g2⟩
    rw [← ht, List.getElem?_append_left (by omega)] at g1
    exact g1
  · rw [List.length_take]
    omega
theorem RvOk.cut {B : Hp} {ca ca' : List Addr} {cs : Store} {Hf Hf' H' : Hp} {r : Rv} {v : V} (n : Nx ca Hf ca' Hf') (h : RvOk B ca' Hf' H' r v) (hr : ∀ j, r = .cel j → j < ca.length) : RvOk B ca Hf' H' r v := by
  cases r with
  | d x => exact h
  | own o =>
    obtain ⟨a, e, h1, h2, h3, h4⟩ := h
    exact ⟨a, e, h1, h2, fun z => h3 (n.pre.subset z), h4⟩
  | cel j =>
    obtain ⟨a, h1, e⟩ := h
    obtain ⟨t, ht⟩ := n.pre
    rw [← ht, List.getElem?_append_left (hr j rfl)] at h1
    exact ⟨a, h1, e⟩
section
variable {P : Program} {w : World} {K : PySem.W.Frag} {mg : Str → Option Value} {base : Heap} {x qual : Str} {params : Arguments} {body : List Stmt} {scope : Scope} {dvs : List V} {kws : List (Str × V)} {f : Addr} {fd : FuncData} {N ps : List Str} {k : Nat} {F : List S → M Rv}
/-- the body's context -/
abbrev BX (P : Program) (w : World) (K : PySem.W.Frag) (mg : Str → Option Value) (base : Heap) (N : List Str) (qual : Str) (scope : Scope) (f : Addr) (cd : Value) (A : Around) (outer : List Env) (s : Shared) (H : Hp) (E : XK) : Cx := cxOf (L2.CX P w) P w K mg base N qual scope f cd A outer s H E
abbrev BW (E : XK) : WX := fun cls d _ H => E cls d H
theorem takesB {cdv : Value} {A : Around} {outer : List Env} {s : Shared} {H : Hp} {E : XK} : Takes (BX P w K mg base N qual scope f cdv A outer s H E) (BW E) := takes_of rfl rfl rfl rfl
theorem passesB {cdv : Value} {A : Around} {outer : List Env} {s : Shared} {H : Hp} {E : XK} : PassesOwn (model P w) (BX P w K mg base N qual scope f cdv A outer s H E).A (BX P w K mg base N qual scope f cdv A outer s H E).env (BX P w K mg base N qual scope f cdv A outer s H E).xe := passes_of rfl
/-- THE RULE: a def by its body -/
theorem def_ok (Fd : FunD K x qual params body scope dvs kws f fd) (S : FnScope N ps scope) {g : G} (m : Nat) (hm : N.length = ps.length + m)
    (hbody : ∀ (cdv : Value) (A : Around) (outer : List Env) (s : Shared) (H : Hp) (E : XK), Room k (A.deeper (PyProof.Rows.envOfC qual scope s.heap.objs.size f cdv)) → Takes (BX P w K mg base N qual scope f cdv A outer s H E) (BW E) →
      PassesOwn (model P w) (BX P w K mg base N qual scope f cdv A outer s H E).A (BX P w K mg base N qual scope f cdv A outer s H E).env (BX P w K mg base N qual scope f cdv A outer s H E).xe → DSs (BX P w K mg base N qual scope f cdv A outer s H E) (BW E) body g) :
    FnOk P w K mg base (L2.CX P w) (k + 1) f fd ps (spE mg ps.length (runG m g)) := by
  refine Fd.ok S (fun vs H Q E h => h.1) (fun cdv A outer s H vs Q E hr h => ?_)
  obtain ⟨hl, B, ca, cs, Hf, ss, r, h⟩ := h
  obtain ⟨t, pt, kt⟩ := hbody cdv A outer s H E hr takesB passesB
  refine ⟨t, pt, ?_⟩
  have hss : ss.length = vs.length := by
    have := r.len
    rw [List.length_map] at this
    exact this.symm
  have hst : L2.start N vs = vs.map some ++ List.replicate m none := by
    unfold L2.start
    rw [hm, hl, Nat.add_sub_cancel_left]
  have r1 : Rel B ca (ss ++ List.replicate m .no) cs Hf (L2.start N vs) H := by
    rw [hst]
    refine r.slots (by simp [hss]) fun i sl e => ?_
    by_cases hi : i < ss.length
    · rw [List.getElem?_append_left hi] at e
      rcases r.sl i sl e with z | ⟨v, h1, h2⟩
      · exact .inl z
      · exact .inr ⟨v, by rw [List.getElem?_append_left (by simp; omega)]; exact h1, h2⟩
    · rw [List.getElem?_append_right (by omega), List.getElem?_replicate] at e
      split at e
      · cases e; exact .inl rfl
      · cases e
  refine kt B ca _ cs Hf _ H _ r1 ?_
  have hlc := r.lenc
  unfold runG at h
  cases e : g (ss ++ List.replicate m .no) cs with
  | nx ρ' cs' =>
    rw [e] at h
    exact fun ca' Hf' σ' H' n r' => h Hf' H' .non n.ex (r.cut n r') .non
  | rt rv cs' =>
    rw [e] at h
    intro ca' Hf' ρ' σ' H' v n r' hv
    have rc := r.cut n r'
    cases rv with
    | d x => exact h Hf' H' v n.ex rc (hv.cut (cs := cs) n fun j z => nomatch z)
    | own o => exact h Hf' H' v n.ex rc (hv.cut (cs := cs) n fun j z => nomatch z)
    | cel j =>
      by_cases hj : j < cs.length
      · have h' : match (Res.ok (Rv.cel j) (cs'.take cs.length) : Res Rv) with
          | .ok r cs' => ∀ Hf' H' v, Ex Hf Hf' → Rel B ca ss cs' Hf' (vs.map some) H' → RvOk B ca Hf' H' r v → Q v H'
          | .er c cs' => ∀ Hf' H' cls, Ex Hf Hf' → Rel B ca ss cs' Hf' (vs.map some) H' → mg c = some cls → E cls none H'
          | .no => False := by
          have e2 : fin cs.length (.rt (.cel j) cs') = .ok (.cel j) (cs'.take cs.length) := if_pos hj
          rw [← e2]; exact h
        exact h' Hf' H' v n.ex rc (hv.cut (cs := cs) n fun j' z => by cases z; omega)
      · obtain ⟨a, h1, rfl⟩ := hv
        have hj' : j < cs'.length := by rw [← r'.lenc]; exact (List.getElem?_eq_some_iff.mp h1).1
        obtain ⟨b, g1, g2⟩ := r'.cells j cs'[j] (by simp [hj'])
        rw [h1] at g1; cases g1
        have ma : a ∈ ca' := List.mem_of_getElem? h1
        have h' : match (Res.ok (Rv.own cs'[j]) (cs'.take cs.length) : Res Rv) with
          | .ok r cs' => ∀ Hf' H' v, Ex Hf Hf' → Rel B ca ss cs' Hf' (vs.map some) H' → RvOk B ca Hf' H' r v → Q v H'
          | .er c cs' => ∀ Hf' H' cls, Ex Hf Hf' → Rel B ca ss cs' Hf' (vs.map some) H' → mg c = some cls → E cls none H'
          | .no => False := by
          have e2 : fin cs.length (.rt (.cel j) cs') = .ok (.own cs'[j]) (cs'.take cs.length) := by
            refine Eq.trans (show fin cs.length (.rt (.cel j) cs') = (if j < cs.length then .ok (.cel j) (cs'.take cs.length) else match cs'[j]? with
              | some o => .ok (.own o) (cs'.take cs.length)
              | none => .no) from rfl) ?_
            rw [if_neg hj, List.getElem?_eq_getElem hj']
          rw [← e2]; exact h
        refine h' Hf' H' _ n.ex rc ⟨a, rfl, g2, r'.off a ma, fun z => ?_, ?_⟩
        · obtain ⟨t, ht⟩ := n.pre
          obtain ⟨i, hi, ei⟩ := List.mem_iff_getElem.mp z
          have e3 : ca'[i]? = some a := by rw [← ht, List.getElem?_append_left hi]; simp [hi, ei]
          have := nd_ix r'.nd h1 e3
          omega
        · cases q : B a with
          | none => rfl
          | some u => exact absurd ma (r'.dis a (by rw [q]; simp)).2
  | er c ρ' cs' =>
    rw [e] at h
    exact fun ca' Hf' σ' H' cls n r' hc => h Hf' H' cls n.ex (r.cut n r') hc
  | bk ρ' cs' => rw [e] at h; exact h.elim
  | ct ρ' cs' => rw [e] at h; exact h.elim
  | no => rw [e] at h; exact h.elim
end
end Dn

set_option Elab.async false
set_option linter.all false
set_option maxRecDepth 100000
set_option maxHeartbeats 1000000
/-! Dn7: calls of defs. -/
namespace Dn
open PySem L2
/-- no cell among them -/
def noCel : List S → Bool
  | [] => true
  | .cel _ :: _ => false
  | _ :: r => noCel r
/-- a call that is handed no cell -/
def callP (F : List S → M Rv) (ss : List S) : M Rv := fun cs => if noCel ss = true then (match F ss [] with
  | .ok (.d x) _ => .ok (.d x) cs
  | .ok (.own o) _ => .ok (.own o) cs
  | .ok (.cel _) _ => .no
  | .er c _ => .er c cs
  | .no => .no) else .no
/-- a call that is handed one cell, ahead -/
def callC (F : List S → M Rv) (ss : List S) : M Rv := fun cs => match ss with
  | .cel j :: r => if noCel r = true then (match cs[j]? with
    | some o => match F (.cel 0 :: r) [o] with
      | .ok (.d x) [o'] => .ok (.d x) (cs.set j o')
      | .ok (.own u) [o'] => .ok (.own u) (cs.set j o')
      | .ok (.cel 0) [o'] => .ok (.cel j) (cs.set j o')
      | .er c [o'] => .er c (cs.set j o')
      | _ => .no
    | none => .no) else .no
  | _ => .no
def eCall (F : List S → M Rv) (g : List S → M (List S)) (ρ : List S) : M Rv := bnd (g ρ) (callP F)
def eCallC (F : List S → M Rv) (g : List S → M (List S)) (ρ : List S) : M Rv := bnd (g ρ) (callC F)
/-- the i-th slot holds the def at a; it lets nothing out -/
def eCallL (i : Nat) (a : Addr) (F : List S → M Rv) (g : List S → M (List S)) (ρ : List S) : M Rv := fun cs => match ρ[i]? with
  | some (.fn b) => if b = a then bnd (g ρ) (fun ss cs => match callP F ss cs with
    | .er _ _ => .no
    | o => o) cs else .no
  | _ => .no
section
variable {B : Hp} {ca : List Addr} {ρ : List S} {cs : Store} {Hf Hf' : Hp} {σ : L2.St} {H H' : Hp} {ss : List S} {vs : List V}
theorem nocel_sv : ∀ {ss : List S} {vs : List V} {ca' : List Addr}, noCel ss = true → SvsOk ca Hf ss vs → SvsOk ca' Hf ss vs
  | [], _, _, _, h => by cases h; exact .nil
  | .no :: r, _, _, e, h => by cases h with | cons h t => exact h.elim
  | .d x :: r, _, _, e, h => by cases h with | cons h t => exact .cons h (nocel_sv (show noCel r = true from e) t)
  | .fn a :: r, _, _, e, h => by cases h with | cons h t => exact .cons h (nocel_sv (show noCel r = true from e) t)
  | .cel j :: r, _, _, e, h => by cases e
theorem slots_of {ca' : List Addr} (h : SvsOk ca' Hf ss vs) (i : Nat) (s : S) (e : ss[i]? = some s) : s = .no ∨ ∃ v, (vs.map some)[i]? = some (some v) ∧ SvOk ca' Hf s v := by
  obtain ⟨v, h1, h2⟩ := h.get e
  exact .inr ⟨v, by rw [List.getElem?_map, h1] <;> rfl, h2⟩
/-- what a callee may not touch: all but what is frozen and what it is handed -/
def ban (Hf H : Hp) (ca' : List Addr) : Hp := fun a => if Hf a = none ∧ a ∉ ca' then H a else none
theorem ban_some {ca' : List Addr} {a : Addr} {o : HO} (h1 : Hf a = none) (h2 : a ∉ ca') (h3 : H a = some o) : ban Hf H ca' a = some o := by
  unfold ban; rw [if_pos ⟨h1, h2⟩]; exact h3
theorem ban_of {ca' : List Addr} {a : Addr} (h : ban Hf H ca' a ≠ none) : Hf a = none ∧ a ∉ ca' := by
  unfold ban at h
  by_cases q : Hf a = none ∧ a ∉ ca'
  · exact q
  · rw [if_neg q] at h; exact absurd rfl h
theorem ban_ex {ca' : List Addr} : Ex (ban Hf H ca') H := fun a o h => by
  unfold ban at h
  by_cases q : Hf a = none ∧ a ∉ ca'
  · rw [if_pos q] at h; exact h
  · rw [if_neg q] at h; cases h
theorem Rel.enter (r : Rel B ca ρ cs Hf σ H) (h : noCel ss = true) (hv : SvsOk ca Hf ss vs) : Rel (ban Hf H []) [] ss [] Hf (vs.map some) H :=
  ⟨r.ext, by simp [hv.len], slots_of (nocel_sv h hv), fun j o e => by simp at e, rfl, List.nodup_nil, fun a m => by simp at m, ban_ex, fun a m => ban_of m⟩
theorem Rel.leave {ss' : List S} {σ' : L2.St} (r : Rel B ca ρ cs Hf σ H) (e : Ex Hf Hf') (r' : Rel (ban Hf H []) [] ss' [] Hf' σ' H') : Rel B ca ρ cs Hf' σ H' ∧ Nx ca Hf ca Hf' := by
  have kp : ∀ a, Hf a = none → ∀ o, H a = some o → H' a = some o := fun a h o q => r'.exb a o (ban_some h (by simp) q)
  have nf : ∀ a, Hf a = none → H a ≠ none → Hf' a = none := fun a h q => by
    cases z : H a with
    | none => exact absurd z q
    | some o => exact (r'.dis a (by rw [ban_some h (by simp) z]; simp)).1
  have n : Nx ca Hf ca Hf' := ⟨List.prefix_refl _, e⟩
  refine ⟨⟨r'.ext, r.len, fun i s q => ?_, fun j o q => ?_, r.lenc, r.nd, fun a m => nf a (r.off a m) (r.there m), fun a o q => kp a (r.dis a (by rw [q]; simp)).1 o (r.exb a o q), fun a m => ?_⟩, n⟩
  · rcases r.sl i s q with z | ⟨v, h1, h2⟩
    · exact .inl z
    · exact .inr ⟨v, h1, h2.nx n⟩
  · obtain ⟨a, h1, h2⟩ := r.cells j o q
    refine ⟨a, h1, h2.at ?_ e⟩
    have ma := List.mem_of_getElem? h1
    cases z : H a with
    | none => exact absurd z (r.there ma)
    | some u => exact kp a (r.off a ma) u z
  · obtain ⟨h1, h2⟩ := r.dis a m
    refine ⟨nf a h1 ?_, h2⟩
    cases q : B a with
    | none => exact absurd q m
    | some u => rw [r.exb a u q]; simp
theorem RvOk.leave {rv : Rv} {v : V} (r : Rel B ca ρ cs Hf σ H) (h : RvOk (ban Hf H []) [] Hf' H' rv v) (n : ∀ j, rv ≠ .cel j) : RvOk B ca Hf' H' rv v := by
  cases rv with
  | d x => exact h
  | cel j => exact absurd rfl (n j)
  | own o =>
    obtain ⟨a, e, h1, h2, _, h4⟩ := h
    have hb : ∀ o, H a = some o → Hf a = none → False := fun o q z => by rw [ban_some z (by simp) q] at h4; cases h4
    refine ⟨a, e, h1, h2, fun m => ?_, ?_⟩
    · cases z : H a with
      | none => exact r.there m z
      | some u => exact hb u z (r.off a m)
    · cases z : B a with
      | none => rfl
      | some u => exact (hb u (r.exb a u z) (r.dis a (by rw [z]; simp)).1).elim
theorem Rel.enterC {j : Nat} {o : OC} {a : Addr} {v : V} (r : Rel B ca ρ cs Hf σ H) (h : noCel ss = true) (hv : SvsOk ca Hf ss vs) (hj : cs[j]? = some o) (ha : ca[j]? = some a) : Rel (ban Hf H [a]) [a] (.cel 0 :: ss) [o] Hf ((V.ref a :: vs).map some) H := by
  have ma := List.mem_of_getElem? ha
  refine ⟨r.ext, by simp [hv.len], slots_of (.cons ⟨a, rfl, rfl⟩ (nocel_sv h hv)), fun i u e => ?_, rfl, by simp, fun b m => ?_, ban_ex, fun b m => ban_of m⟩
  · cases i with
    | zero => simp at e; subst e; exact ⟨a, rfl, r.cell hj ha⟩
    | succ i => simp at e
  · simp at m; subst m; exact r.off b ma
theorem Rel.leaveC {ss' : List S} {σ' : L2.St} {j : Nat} {o' : OC} {a : Addr} (r : Rel B ca ρ cs Hf σ H) (ha : ca[j]? = some a) (e : Ex Hf Hf') (r' : Rel (ban Hf H [a]) [a] ss' [o'] Hf' σ' H') : Rel B ca ρ (cs.set j o') Hf' σ H' ∧ Nx ca Hf ca Hf' := by
  have kp : ∀ b, Hf b = none → b ≠ a → ∀ o, H b = some o → H' b = some o := fun b h hn o q => r'.exb b o (ban_some h (by simp [hn]) q)
  have nf : ∀ b, Hf b = none → b ≠ a → H b ≠ none → Hf' b = none := fun b h hn q => by
    cases z : H b with
    | none => exact absurd z q
    | some o => exact (r'.dis b (by rw [ban_some h (by simp [hn]) z]; simp)).1
  have ma := List.mem_of_getElem? ha
  have n : Nx ca Hf ca Hf' := ⟨List.prefix_refl _, e⟩
  refine ⟨⟨r'.ext, r.len, fun i s q => ?_, fun i o q => ?_, by simp [r.lenc], r.nd, fun b m => ?_, fun b o q => ?_, fun b m => ?_⟩, n⟩
  · rcases r.sl i s q with z | ⟨v, h1, h2⟩
    · exact .inl z
    · exact .inr ⟨v, h1, h2.nx n⟩
  · by_cases hi : j = i
    · subst hi
      have hjl : j < cs.length := by rw [← r.lenc]; exact (List.getElem?_eq_some_iff.mp ha).1
      rw [List.getElem?_set_self hjl] at q
      cases q
      obtain ⟨b, g1, g2⟩ := r'.cells 0 o' rfl
      have : a = b := by simpa using g1
      subst this
      exact ⟨a, ha, g2⟩
    · rw [List.getElem?_set_ne hi] at q
      obtain ⟨b, h1, h2⟩ := r.cells i o q
      have hne : b ≠ a := fun z => by subst z; exact hi (nd_ix r.nd ha h1)
      have mb := List.mem_of_getElem? h1
      refine ⟨b, h1, h2.at ?_ e⟩
      cases z : H b with
      | none => exact absurd z (r.there mb)
      | some u => exact kp b (r.off b mb) hne u z
  · by_cases hb : b = a
    · subst hb; exact r'.off b (by simp)
    · exact nf b (r.off b m) hb (r.there m)
  · have hd := r.dis b (by rw [q]; simp)
    exact kp b hd.1 (fun z => hd.2 (z ▸ ma)) o (r.exb b o q)
  · obtain ⟨h1, h2⟩ := r.dis b m
    refine ⟨nf b h1 (fun z => h2 (z ▸ ma)) ?_, h2⟩
    cases q : B b with
    | none => exact absurd q m
    | some u => rw [r.exb b u q]; simp
theorem RvOk.leaveC {rv : Rv} {v : V} {a : Addr} {j : Nat} (r : Rel B ca ρ cs Hf σ H) (ha : ca[j]? = some a) (h : RvOk (ban Hf H [a]) [a] Hf' H' rv v) (n : ∀ i, rv ≠ .cel i) : RvOk B ca Hf' H' rv v := by
  cases rv with
  | d x => exact h
  | cel i => exact absurd rfl (n i)
  | own o =>
    obtain ⟨b, e, h1, h2, h3, h4⟩ := h
    have hne : b ≠ a := fun z => h3 (by simp [z])
    have hb : ∀ o, H b = some o → Hf b = none → False := fun o q z => by rw [ban_some z (by simp [hne]) q] at h4; cases h4
    refine ⟨b, e, h1, h2, fun m => ?_, ?_⟩
    · cases z : H b with
      | none => exact r.there m z
      | some u => exact hb u z (r.off b m)
    · cases z : B b with
      | none => rfl
      | some u => exact (hb u (r.exb b u z) (r.dis b (by rw [z]; simp)).1).elim
end
section
variable {X : Cx} {W : WX} {k : Nat} {f : Addr} {fd : FuncData} {ps : List Str} {F : List S → M Rv} {x : Str} {p pos : Pos} {e : Expr} {es : List Expr} {g : List S → M (List S)}
theorem callP_run {n : Nat} {B : Hp} {ca : List Addr} {ρ : List S} {cs : Store} {Hf : Hp} {σ : L2.St} {H : Hp} {Q : VK} {ss : List S} {vs : List V} (r : Rel B ca ρ cs Hf σ H) (hn : vs.length = n) (hv : SvsOk ca Hf ss vs)
    (h : Gs X W B ca Hf ρ σ (callP F ss cs) (fun ca' Hf' H' _ rv => ∀ v, RvOk B ca' Hf' H' rv v → Q v H')) : spE X.mg n F vs H Q (WE W σ) := by
  unfold callP at h
  by_cases hc : noCel ss = true
  · rw [if_pos hc] at h
    refine ⟨hn, _, [], [], Hf, ss, r.enter hc hv, ?_⟩
    cases q : F ss [] with
    | no => rw [q] at h; exact h.elim
    | er c cs1 =>
      rw [q] at h
      intro Hf' H' cls ex r' hm
      cases cs1 with
      | nil =>
        obtain ⟨r2, n2⟩ := r.leave ex r'
        exact h ca Hf' H' cls n2 r2 hm
      | cons _ _ => exact absurd r'.lenc (by simp)
    | ok rv cs1 =>
      rw [q] at h
      intro Hf' H' v ex r' hr
      have e1 : cs1 = [] := by
        have := r'.lenc
        exact List.length_eq_zero_iff.mp (by simpa using this.symm)
      subst e1
      obtain ⟨r2, n2⟩ := r.leave ex r'
      cases rv with
      | d y => exact h ca Hf' H' n2 r2 v (RvOk.leave r hr fun j z => nomatch z)
      | own o => exact h ca Hf' H' n2 r2 v (RvOk.leave r hr fun j z => nomatch z)
      | cel j => exact h.elim
  · rw [if_neg hc] at h; exact h.elim
theorem do_call (Fk : FnOk X.prog X.w X.K X.mg X.base (L2.CX X.prog X.w) k f fd ps (spE X.mg ps.length F)) (hr : Room k X.A) (tk : Takes X W) (hm : X.mg x = some (.ref f)) (hk : PySem.W.keepIn X.K (.ref f) = true) (hb : Binds X.K fd ps [])
    (ha : DA X W (e :: es) g) (hl : (e :: es).length = ps.length := by rfl) (hg : Gl X x := by rfl) (hdb : (x == ("__debug__" : Str)) = false := by decide) (he : starEach (e :: es) X.env = (false, eval e X.env) :: starEach es X.env := by rfl) (hpl : (backTo pos (starEach es X.env)).any (·.1) = false := by rfl)
    (hlen : ∀ ρ cs ss cs', g ρ cs = .ok ss cs' → ss.length = ps.length) : DO X W (.Call (.Name x p) (e :: es) [] pos) (eCall F g) := by
  obtain ⟨t, pt, kt⟩ := ha
  refine ⟨_, pe_callS (E := WE W) Fk hr hg hm hk hb (passAt tk) pt hdb he hpl, fun B ca ρ cs Hf σ H Q r h => ?_⟩
  have h' := h
  cases q : g ρ cs with
  | ok ss cs1 =>
    refine kt B ca ρ cs Hf σ H _ r ?_
    have hss := hlen ρ cs ss cs1 q
    rw [q]
    intro ca1 Hf1 H1 n1 r1 vs hvs
    have h1 : Gs X W B ca1 Hf1 ρ σ (callP F ss cs1) (fun ca' Hf' H' _ rv => ∀ v, RvOk B ca' Hf' H' rv v → Q v H') := by
      have e1 : eCall F g ρ cs = callP F ss cs1 := bnd_ok q
      rw [← e1]; exact h.fwd n1
    exact callP_run r1 (by rw [← hvs.len]; exact hss) hvs h1
  | er c cs1 =>
    refine kt B ca ρ cs Hf σ H _ r ?_
    rw [q]
    have e1 : eCall F g ρ cs = .er c cs1 := by unfold eCall bnd; rw [q]
    rw [e1] at h
    exact h
  | no =>
    have e1 : eCall F g ρ cs = .no := by unfold eCall bnd; rw [q]
    rw [e1] at h
    exact h.elim
theorem callC_run {n : Nat} {B : Hp} {ca : List Addr} {ρ : List S} {cs : Store} {Hf : Hp} {σ : L2.St} {H : Hp} {Q : VK} {ss : List S} {vs : List V} (r : Rel B ca ρ cs Hf σ H) (hn : vs.length = n) (hv : SvsOk ca Hf ss vs)
    (h : Gs X W B ca Hf ρ σ (callC F ss cs) (fun ca' Hf' H' _ rv => ∀ v, RvOk B ca' Hf' H' rv v → Q v H')) : spE X.mg n F vs H Q (WE W σ) := by
  cases hv with
  | nil => exact h.elim
  | cons hs ht =>
    rename_i s ss v vs
    cases s with
    | cel j =>
      obtain ⟨a, ha, rfl⟩ := hs
      have h0 : Gs X W B ca Hf ρ σ (if noCel ss = true then (match cs[j]? with
        | some o => match F (.cel 0 :: ss) [o] with
          | .ok (.d x) [o'] => .ok (.d x) (cs.set j o')
          | .ok (.own u) [o'] => .ok (.own u) (cs.set j o')
          | .ok (.cel 0) [o'] => .ok (.cel j) (cs.set j o')
          | .er c [o'] => .er c (cs.set j o')
          | _ => .no
        | none => .no) else .no) (fun ca' Hf' H' _ rv => ∀ v, RvOk B ca' Hf' H' rv v → Q v H') := h
      by_cases hc : noCel ss = true
      · rw [if_pos hc] at h0
        cases qj : cs[j]? with
        | none => rw [qj] at h0; exact h0.elim
        | some o =>
          rw [qj] at h0
          refine ⟨hn, _, [a], [o], Hf, _, r.enterC (v := .ref a) hc ht qj ha, ?_⟩
          have h1 : Gs X W B ca Hf ρ σ (match F (.cel 0 :: ss) [o] with
            | .ok (.d x) [o'] => .ok (.d x) (cs.set j o')
            | .ok (.own u) [o'] => .ok (.own u) (cs.set j o')
            | .ok (.cel 0) [o'] => .ok (.cel j) (cs.set j o')
            | .er c [o'] => .er c (cs.set j o')
            | _ => .no) (fun ca' Hf' H' _ rv => ∀ v, RvOk B ca' Hf' H' rv v → Q v H') := h0
          cases q : F (.cel 0 :: ss) [o] with
          | no => rw [q] at h1; exact h1.elim
          | er c cs1 =>
            rw [q] at h1
            intro Hf' H' cls ex r' hm
            have hl := r'.lenc
            match cs1, hl with
            | [o'], _ =>
              obtain ⟨r2, n2⟩ := r.leaveC ha ex r'
              exact h1 ca Hf' H' cls n2 r2 hm
          | ok rv cs1 =>
            rw [q] at h1
            intro Hf' H' v ex r' hr
            have hl := r'.lenc
            match cs1, hl with
            | [o'], _ =>
              obtain ⟨r2, n2⟩ := r.leaveC ha ex r'
              cases rv with
              | d y => exact h1 ca Hf' H' n2 r2 v (RvOk.leaveC r ha hr fun j z => nomatch z)
              | own u => exact h1 ca Hf' H' n2 r2 v (RvOk.leaveC r ha hr fun j z => nomatch z)
              | cel i =>
                cases i with
                | zero =>
                  obtain ⟨b, g1, rfl⟩ := hr
                  have : a = b := by simpa using g1
                  subst this
                  exact h1 ca Hf' H' n2 r2 _ ⟨a, ha, rfl⟩
                | succ i => exact h1.elim
      · rw [if_neg hc] at h0; exact h0.elim
    | _ => exact h.elim
theorem do_callC (Fk : FnOk X.prog X.w X.K X.mg X.base (L2.CX X.prog X.w) k f fd ps (spE X.mg ps.length F)) (hr : Room k X.A) (tk : Takes X W) (hm : X.mg x = some (.ref f)) (hk : PySem.W.keepIn X.K (.ref f) = true) (hb : Binds X.K fd ps [])
    (ha : DA X W (e :: es) g) (hl : (e :: es).length = ps.length := by rfl) (hg : Gl X x := by rfl) (hdb : (x == ("__debug__" : Str)) = false := by decide) (he : starEach (e :: es) X.env = (false, eval e X.env) :: starEach es X.env := by rfl) (hpl : (backTo pos (starEach es X.env)).any (·.1) = false := by rfl)
    (hlen : ∀ ρ cs ss cs', g ρ cs = .ok ss cs' → ss.length = ps.length) : DO X W (.Call (.Name x p) (e :: es) [] pos) (eCallC F g) := by
  obtain ⟨t, pt, kt⟩ := ha
  refine ⟨_, pe_callS (E := WE W) Fk hr hg hm hk hb (passAt tk) pt hdb he hpl, fun B ca ρ cs Hf σ H Q r h => ?_⟩
  cases q : g ρ cs with
  | ok ss cs1 =>
    refine kt B ca ρ cs Hf σ H _ r ?_
    have hss := hlen ρ cs ss cs1 q
    rw [q]
    intro ca1 Hf1 H1 n1 r1 vs hvs
    have h1 : Gs X W B ca1 Hf1 ρ σ (callC F ss cs1) (fun ca' Hf' H' _ rv => ∀ v, RvOk B ca' Hf' H' rv v → Q v H') := by
      have e1 : eCallC F g ρ cs = callC F ss cs1 := bnd_ok q
      rw [← e1]; exact h.fwd n1
    exact callC_run r1 (by rw [← hvs.len]; exact hss) hvs h1
  | er c cs1 =>
    refine kt B ca ρ cs Hf σ H _ r ?_
    rw [q]
    have e1 : eCallC F g ρ cs = .er c cs1 := by unfold eCallC bnd; rw [q]
    rw [e1] at h
    exact h
  | no =>
    have e1 : eCallC F g ρ cs = .no := by unfold eCallC bnd; rw [q]
    rw [e1] at h
    exact h.elim
/-- a call of a local name that holds a def -/
theorem do_callL (i : Nat) (Fk : FnOk X.prog X.w X.K X.mg X.base (L2.CX X.prog X.w) k f fd ps (spE X.mg ps.length F)) (hr : Room k X.A) (hk : PySem.W.keepIn X.K (.ref f) = true) (hb : Binds X.K fd ps [])
    (ha : DA X W (e :: es) g) (hlen : ∀ ρ cs ss cs', g ρ cs = .ok ss cs' → ss.length = ps.length) (hN : X.N[i]? = some x := by rfl) (hv : Vis X.env.scope x := by first | exact Or.inl rfl | exact Or.inr (Or.inl rfl) | exact Or.inr (Or.inr rfl))
    (hdb : (x == ("__debug__" : Str)) = false := by decide) (hcd : (x == ("__classdict__" : Str)) = false := by decide) (he : starEach (e :: es) X.env = (false, eval e X.env) :: starEach es X.env := by rfl) (hpl : (backTo pos (starEach es X.env)).any (·.1) = false := by rfl) : DO X W (.Call (.Name x p) (e :: es) [] pos) (eCallL i f F g) := by
  obtain ⟨t, pt, kt⟩ := ha
  refine ⟨_, pe_callL (dvs := []) (E := E0) Fk hr hN hv hk hb .nil passL pt hdb hcd he hpl, fun B ca ρ cs Hf σ H Q r h => ?_⟩
  cases es : ρ[i]? with
  | none =>
    have e1 : eCallL i f F g ρ cs = .no := by unfold eCallL; rw [es]
    rw [e1] at h; exact h.elim
  | some s =>
    cases s with
    | fn b =>
      by_cases hb : b = f
      · subst hb
        have e1 : eCallL i b F g ρ cs = bnd (g ρ) (fun ss cs => match callP F ss cs with
          | .er _ _ => .no
          | o => o) cs := by unfold eCallL; rw [es]; exact if_pos rfl
        rw [e1] at h
        obtain ⟨v0, s1, s2⟩ := r.get es (fun z => nomatch z)
        have s2' : v0 = .ref b := s2
        subst s2'
        refine ⟨s1, ?_⟩
        cases q : g ρ cs with
        | ok ss cs1 =>
          refine kt B ca ρ cs Hf σ H _ r ?_
          have hss := hlen ρ cs ss cs1 q
          rw [q]
          intro ca1 Hf1 H1 n1 r1 vs hvs
          rw [bnd_ok q] at h
          rw [List.append_nil]
          have h1 := h.fwd n1
          cases qc : callP F ss cs1 with
          | er c c' => rw [qc] at h1; exact h1.elim
          | no => rw [qc] at h1; exact h1.elim
          | ok rv cs2 =>
            rw [qc] at h1
            have h2 : Gs X (fun _ _ _ _ => False) B ca1 Hf1 ρ σ (callP F ss cs1) (fun ca' Hf' H' _ rv => ∀ v, RvOk B ca' Hf' H' rv v → Q v H') := by rw [qc]; exact h1
            exact callP_run (W := fun _ _ _ _ => False) r1 (by rw [← hvs.len]; exact hss) hvs h2
        | er c cs1 =>
          refine kt B ca ρ cs Hf σ H _ r ?_
          rw [q]
          unfold bnd at h
          rw [q] at h
          exact h
        | no =>
          unfold bnd at h
          rw [q] at h
          exact h.elim
      · have e1 : eCallL i f F g ρ cs = .no := by unfold eCallL; rw [es]; exact if_neg hb
        rw [e1] at h; exact h.elim
    | _ =>
      have e1 : eCallL i f F g ρ cs = .no := by unfold eCallL; rw [es]
      rw [e1] at h; exact h.elim
theorem alen0 : ∀ ρ cs ss cs', aNil ρ cs = .ok ss cs' → ss.length = 0 := fun ρ cs ss cs' h => by
  have h' : (Res.ok [] cs : Res (List S)) = .ok ss cs' := h
  cases h'; rfl
theorem alenS {fa : List S → M S} {n : Nat} (hl : ∀ ρ cs ss cs', g ρ cs = .ok ss cs' → ss.length = n) : ∀ ρ cs ss cs', aCons fa g ρ cs = .ok ss cs' → ss.length = n + 1 := fun ρ cs ss cs' h => by
  unfold aCons bnd at h
  cases q : fa ρ cs with
  | ok a c1 =>
    rw [q] at h
    dsimp only at h
    cases q2 : g ρ c1 with
    | ok as c2 =>
      rw [q2] at h
      have h' : (Res.ok (a :: as) c2 : Res (List S)) = .ok ss cs' := h
      cases h'
      exact congrArg Nat.succ (hl ρ c1 as _ q2)
    | er c c2 => rw [q2] at h; cases h
    | no => rw [q2] at h; cases h
  | er c c2 => rw [q] at h; cases h
  | no => rw [q] at h; cases h
end
end Dn

set_option Elab.async false
set_option linter.all false
set_option maxRecDepth 100000
set_option maxHeartbeats 1000000
/-! Dn8: defs by name, the head by facts, the law's end. -/
namespace Dn
open PySem L2
/-- the def named x does what F says, by at most k levels -/
def Okf (P : Program) (w : World) (K : PySem.W.Frag) (mg : Str → Option Value) (base : Heap) (k : Nat) (x : Str) (ps : List Str) (F : List S → M Rv) : Prop :=
  ∃ f fd, mg x = some (.ref f) ∧ f = He.ga K x ∧ FnOk P w K mg base (L2.CX P w) k f fd ps (spE mg ps.length F) ∧ Binds K fd ps [] ∧ PySem.W.keepIn K (.ref f) = true
section
variable {P : Program} {w : World} {K : PySem.W.Frag} {mg : Str → Option Value} {base : Heap} {j k : Nat} {x : Str} {ps N : List Str} {F : List S → M Rv} {st : Stmt}
theorem Okf.mono (h : Okf P w K mg base j x ps F) (hk : j ≤ k) : Okf P w K mg base k x ps F := by
  obtain ⟨f, fd, h1, h0, h2, h3, h4⟩ := h
  exact ⟨f, fd, h1, h0, h2.mono hk, h3, h4⟩
/-- how a def of the text stands -/
structure Dfn (K : PySem.W.Frag) (mg : Str → Option Value) (x : Str) (st : Stmt) (ps : List Str) : Prop where
  g : mg x = some (.ref (He.ga K x))
  d : ∃ fd, FunD K x x (defArgs st) (defBody st) (defScope st) [] [] (He.ga K x) fd ∧ Binds K fd ps []
theorem Dfn.ok (T : Dfn K mg x st ps) (sc : FnScope N ps (defScope st)) (m : Nat) (hm : N.length = ps.length + m) {g : G}
    (hbody : ∀ (cdv : Value) (A : Around) (outer : List Env) (s : Shared) (H : Hp) (E : XK), Room k (A.deeper (PyProof.Rows.envOfC x (defScope st) s.heap.objs.size (He.ga K x) cdv)) → Takes (BX P w K mg base N x (defScope st) (He.ga K x) cdv A outer s H E) (BW E) →
      PassesOwn (model P w) (BX P w K mg base N x (defScope st) (He.ga K x) cdv A outer s H E).A (BX P w K mg base N x (defScope st) (He.ga K x) cdv A outer s H E).env (BX P w K mg base N x (defScope st) (He.ga K x) cdv A outer s H E).xe → DSs (BX P w K mg base N x (defScope st) (He.ga K x) cdv A outer s H E) (BW E) (defBody st) g) :
    Okf P w K mg base (k + 1) x ps (runG m g) := by
  obtain ⟨h1, fd, h2, h3⟩ := T
  exact ⟨He.ga K x, fd, h1, rfl, def_ok h2 sc m hm hbody, h3, h2.kp⟩
def F0 : List S → M Rv := fun _ _ => .no
theorem Dfn.ok0 (T : Dfn K mg x st ps) : Okf P w K mg base k x ps F0 := by
  obtain ⟨h1, fd, h2, h3⟩ := T
  refine ⟨He.ga K x, fd, h1, rfl, ⟨fun vs H Q E h => h.1, fun A outer s H args us vs Q E hr e0 hb hv hs => ?_⟩, h3, h2.kp⟩
  obtain ⟨_, _, _, _, _, _, _, z⟩ := hs
  exact z.elim
end
section
variable {X : Cx} {W : WX} {k : Nat} {x : Str} {ps : List Str} {F : List S → M Rv} {p pos : Pos} {e : Expr} {es : List Expr} {g : List S → M (List S)}
theorem do_f (h : Okf X.prog X.w X.K X.mg X.base k x ps F) (hr : Room k X.A) (tk : Takes X W)
    (ha : DA X W (e :: es) g) (hlen : ∀ ρ cs ss cs', g ρ cs = .ok ss cs' → ss.length = ps.length) (hl : (e :: es).length = ps.length := by rfl) (hg : Gl X x := by rfl) (hdb : (x == ("__debug__" : Str)) = false := by decide) (he : starEach (e :: es) X.env = (false, eval e X.env) :: starEach es X.env := by rfl) (hpl : (backTo pos (starEach es X.env)).any (·.1) = false := by rfl)
    : DO X W (.Call (.Name x p) (e :: es) [] pos) (eCall F g) := by
  obtain ⟨f, fd, h1, _, h2, h3, h4⟩ := h
  exact do_call h2 hr tk h1 h4 h3 ha hl hg hdb he hpl hlen
theorem do_fC (h : Okf X.prog X.w X.K X.mg X.base k x ps F) (hr : Room k X.A) (tk : Takes X W)
    (ha : DA X W (e :: es) g) (hlen : ∀ ρ cs ss cs', g ρ cs = .ok ss cs' → ss.length = ps.length) (hl : (e :: es).length = ps.length := by rfl) (hg : Gl X x := by rfl) (hdb : (x == ("__debug__" : Str)) = false := by decide) (he : starEach (e :: es) X.env = (false, eval e X.env) :: starEach es X.env := by rfl) (hpl : (backTo pos (starEach es X.env)).any (·.1) = false := by rfl)
    : DO X W (.Call (.Name x p) (e :: es) [] pos) (eCallC F g) := by
  obtain ⟨f, fd, h1, _, h2, h3, h4⟩ := h
  exact do_callC h2 hr tk h1 h4 h3 ha hl hg hdb he hpl hlen
theorem do_fL (i : Nat) {y : Str} (h : Okf X.prog X.w X.K X.mg X.base k y ps F) (hr : Room k X.A)
    (ha : DA X W (e :: es) g) (hlen : ∀ ρ cs ss cs', g ρ cs = .ok ss cs' → ss.length = ps.length) (hN : X.N[i]? = some x := by rfl) (hv : Vis X.env.scope x := by first | exact Or.inl rfl | exact Or.inr (Or.inl rfl) | exact Or.inr (Or.inr rfl))
    (hdb : (x == ("__debug__" : Str)) = false := by decide) (hcd : (x == ("__classdict__" : Str)) = false := by decide) (he : starEach (e :: es) X.env = (false, eval e X.env) :: starEach es X.env := by rfl) (hpl : (backTo pos (starEach es X.env)).any (·.1) = false := by rfl)
    : DO X W (.Call (.Name x p) (e :: es) [] pos) (eCallL i (He.ga X.K y) F g) := by
  obtain ⟨f, fd, h1, rfl, h2, h3, h4⟩ := h
  exact do_callL i h2 hr h4 h3 ha hlen hN hv hdb hcd he hpl
end
end Dn

namespace Dn
open PySem L2 He
/-! ### the head: no list stands in what is told of it -/
def nl (o : Obj) : Bool := match o.cls with
  | .type c => c != "list"
  | _ => true
def frL (g : Addr → Option Obj) (as : List Addr) : PySem.W.Frag := (frG g as).filter fun q => nl q.2
theorem frL_mem {g : Addr → Option Obj} {as : List Addr} {a : Addr} {o : Obj} (h : (frL g as).lookup a = some o) : g a = some o ∧ nl o = true := by
  obtain ⟨h1, h2⟩ := List.mem_filter.mp (lookup_mem h)
  exact ⟨frG_mem h1, h2⟩
abbrev AlL : Type := AlD × Bool
def obsL (n : Nat) (fa : List Fa) (fn : List DefD) (fb : PySem.W.Frag → Bool) (g : Addr → Option Obj) : AlL := (obsD fa fn (frL g (He.asD g n)), fb (frL g (He.asD g n)))
def SaysL (fa : List Fa) (fn : List DefD) (fb : PySem.W.Frag → Bool) (K : PySem.W.Frag) : Prop := SaysD fa fn K ∧ fb K = true ∧ ∀ a o, K.lookup a = some o → o.cls ≠ .type "list"
def hookL (n : Nat) (fa : List Fa) (fn : List DefD) (fb : PySem.W.Frag → Bool) : PySem.W.Hook where
  α := AlL
  obs := fun s => obsL n fa fn fb s.heap.get?
  val := fun _ => (valD fn, true)
  says := fun _ h => ∃ K : PySem.W.Frag, K.In h ∧ SaysL fa fn fb K
  of := fun _ _ e => ⟨_, fun _ _ q => (frL_mem q).1, congrArg (fun z : AlL => z.1) e, congrArg (fun z : AlL => z.2) e, fun a o q z => by
    have h := (frL_mem q).2
    unfold nl at h
    rw [z] at h
    cases h⟩
  keeps := fun _ _ _ ⟨K, hK, c⟩ k => ⟨K, PySem.W.Frag.In.keeps hK k, c⟩
def obL (n : Nat) (fa : List Fa) (fn : List DefD) (fb : PySem.W.Frag → Bool) (s : PySem.W.SharedT) : AlL := obsL n fa fn fb (HandSHeadRun.getT s)
theorem obL_eq (n : Nat) (fa : List Fa) (fn : List DefD) (fb : PySem.W.Frag → Bool) (s : PySem.W.SharedT) : obL n fa fn fb s = (hookL n fa fn fb).obs s.abs := by
  have e : HandSHeadRun.getT s = s.abs.heap.get? := funext (HandSHeadRun.getT_eq s)
  unfold obL
  rw [e] <;> rfl
/-- a def of the text, as the hook looks at it -/
def dfd (x : Str) (st : Stmt) : DefD := ⟨(x, none), x, x, defArgs st, defBody st, defScope st, [], []⟩
section
variable {fa : List Fa} {fn : List DefD} {K : PySem.W.Frag} {mg : Str → Option Value} {h : Heap}
theorem dfn_of (X : K.In h) (G : h.Ns mainGlobals mg) (c : SaysD fa fn K) {x : Str} {st : Stmt} {ps : List Str} (i j : Nat) (hi : fn[i]? = some (dfd x st)) (hj : fa[j]? = some (.glo x))
    (hb : ∀ (kV doc pm : Value) (an : Option Addr) (cdv ct : Value) (us : List Value), us.length = ps.length → bindArgs (PySem.W.fnOf x x (defArgs st) (defBody st) (defScope st) .none kV doc pm an cdv ct) ⟨us, []⟩ = pure (ps.zip us)) : Dfn K mg x st ps := by
  obtain ⟨fd, F⟩ := c.def_ i hi
  exact ⟨glo_ok X G (c.fact j hj), fd, F, FunD.bindsN F hb⟩
end
/-- the law's end -/
theorem law_end {l : PySem.W.OpenLaw} {n k : Nat} {q : Program} {loose : List Str} {d : DefRec} {fa : List Fa} {fn : List DefD} {fb : PySem.W.Frag → Bool} {m : Nat} {XP : (Str → Option Value) → Heap → Prop} {x : Str} {F : PySem.W.Frag → List S → M Rv}
    (hn : l.most = some n) (hn2 : n ≤ sizeLine) (hdf : d.params.defaults = []) (hr : Room k callerA)
    (hF : ∀ (w : World) (mg : Str → Option Value) (h : Heap) (K : PySem.W.Frag), K.In h → SaysD fa fn K → fb K = true → h.Ns mainGlobals mg → ∃ fd : FuncData, mg d.name = some (.ref (ga K d.name)) ∧ (∀ (s : Shared) (u : Value), BindsTo s fd ⟨[u], []⟩ [(x, u)]) ∧
      ∀ base : Heap, K.In base → base.Ns mainGlobals mg → FnOk l.prog w K mg base (L2.CX l.prog w) k (ga K d.name) fd [x] (spE mg 1 (F K)))
    (hl : ∀ (K : PySem.W.Frag) (ns : List Int), ns.length ≤ n → ∃ cs', F K [.d (.list (ns.map .int))] [] = .ok (.d (.bool true)) cs') :
    PySem.W.WalkO q loose XP (hookL m fa fn fb).says l.row.toRowW d [] (fun f vs => PySem.call f vs) := by
  refine L2.walk_ofE (n := n) (k := k) (x := x) (CX := fun outer H s E u s' => ∃ w : World, L2.CX l.prog w outer H s E u s') hn hn2 hdf hr ?_ (fun H s e s' z => ?_)
  · intro w mg fa0 h Y G hmg
    obtain ⟨K, KX, c, cb, hno⟩ := Y
    obtain ⟨fd, hg, hb, hF'⟩ := hF w mg h K KX c cb G
    have e0 := hmg.symm.trans hg
    cases e0
    refine ⟨K, fd, spE mg 1 (F K), KX, hb, fun H a ns hlen _ hS => ?_, fun base k1 k2 => ?_⟩
    · have rd : Rd H a (.lst (ns.map V.int)) := by
        rcases hS with z | ⟨o, its, m', z1, z2, _⟩
        · exact z
        · exact absurd z2 (hno a o z1)
      have dd : Dds H (ns.map V.int) (ns.map PyData.int) := by
        clear hlen hS rd
        induction ns with
        | nil => exact .nil
        | cons i r ih => exact .cons (.int i) ih
      obtain ⟨cs', e⟩ := hl K ns hlen
      refine ⟨rfl, fun _ => none, [], [], H, [.d (.list (ns.map .int))], ⟨fun _ _ h => h, rfl, fun i s e => ?_, fun j o e => (by simp at e), rfl, List.nodup_nil, fun b z => (by simp at z), fun b o z => (by cases z), fun b z => absurd rfl z⟩, ?_⟩
      · cases i with
        | zero => simp at e; subst e; exact .inr ⟨.ref a, rfl, .lst rd dd⟩
        | succ i => simp at e
      · rw [e]
        intro Hf' H' v _ _ hv
        have hv' : Dd Hf' v (.bool true) := hv
        cases hv'
        rfl
    · have FN := hF' base k1 k2
      exact ⟨FN.len, fun A outer s H args us vs Q E h1 h2 h3 h4 h5 => codeAny_mono (FN.run A outer s H args us vs Q E h1 h2 h3 h4 h5) fun r s' hq => by
        cases r with
        | ok f => cases f <;> exact hq
        | error e => exact ⟨w, hq⟩⟩
  · obtain ⟨w, _, _, _, _, _, _, _, _, _, _, _, _, z⟩ := z
    exact z
end Dn

set_option Elab.async false
set_option linter.all false
set_option maxRecDepth 100000
set_option maxHeartbeats 1000000
/-! Dn9: short forms for printed texts. -/
namespace Dn
open PySem L2
theorem bt_len : bootBuiltins "len" = some (.builtin "len") := by decide +kernel
theorem bt_min : bootBuiltins "min" = some (.builtin "min") := by decide +kernel
theorem bt_max : bootBuiltins "max" = some (.builtin "max") := by decide +kernel
theorem bt_abs : bootBuiltins "abs" = some (.builtin "abs") := by decide +kernel
theorem bt_sum : bootBuiltins "sum" = some (.builtin "sum") := by decide +kernel
theorem bt_sorted : bootBuiltins "sorted" = some (.builtin "sorted") := by decide +kernel
theorem bt_int : bootBuiltins "int" = some (.type "int") := by decide +kernel
theorem bt_bool : bootBuiltins "bool" = some (.type "bool") := by decide +kernel
theorem bt_str : bootBuiltins "str" = some (.type "str") := by decide +kernel
theorem bt_list : bootBuiltins "list" = some (.type "list") := by decide +kernel
theorem bt_tuple : bootBuiltins "tuple" = some (.type "tuple") := by decide +kernel
theorem bt_dict : bootBuiltins "dict" = some (.type "dict") := by decide +kernel
theorem bt_set : bootBuiltins "set" = some (.type "set") := by decide +kernel
theorem hu65 {k : Nat} {A : Around} (r : Room k A) : A.units + 65 < cLine := by have := r.un; omega
def negD : D → Option D
  | .int i => some (.int (-i))
  | _ => none
def eNeg (fa : List S → M S) (ρ : List S) : M S := bnd (op1 negD fa ρ) fun d => ret (.d d)
/-- an exception class of the text -/
structure Exf (K : PySem.W.Frag) (mg : Str → Option Value) (x : Str) : Prop where
  g : mg x = some (.ref (He.ga K x))
  e : PySem.W.excIn K (He.ga K x) He.veBase "ValueError.__new__" = true ∧ PySem.W.keepIn K (.ref (He.ga K x)) = true ∧ PySem.W.subIn K (.ref (He.ga K x)) (.type "BaseException") = some true ∧ PySem.W.typeIn K (.ref (He.ga K x)) = some (.type "type")
section
variable {X : Cx} {W : WX} {a : Expr} {fa : List S → M S} {pos : Pos}
theorem de_neg (ha : DE X W a fa) : DE X W (.UnaryOp .USub a pos) (eNeg fa) := by
  obtain ⟨ta, pa, ka⟩ := ha
  refine ⟨_, pe_un un_neg pa, fun B ca ρ cs Hf σ H Q r h => ?_⟩
  refine op1_run ka r h fun ca2 Hf2 H2 cs2 x da z n2 r2 hx hz h2 => ?_
  unfold negD at hz
  split at hz
  · cases hz
    have := hx.int_; subst this
    exact ⟨_, rfl, h2.ret_ r2 _ (.int _)⟩
  · cases hz
theorem de_gI {x : Str} {i : Int} (hm : ∃ t, X.mg x = some (.int i t)) (hg : Gl X x := by rfl) (hd : (x == ("__debug__" : Str)) = false := by decide) : DE X W (.Name x pos) (eC (.int i)) :=
  let ⟨_, h⟩ := hm; de_globI h hg hd
theorem de_gS {x y : Str} (hm : ∃ t, X.mg x = some (.str y t)) (hg : Gl X x := by rfl) (hd : (x == ("__debug__" : Str)) = false := by decide) : DE X W (.Name x pos) (eC (.str y)) :=
  let ⟨_, h⟩ := hm; de_globS h hg hd
theorem dst_rs {x m : Str} {j : Nat} {p p2 p3 : Pos} (h : Exf X.K X.mg x) (tk : Takes X W) (hc : X.calm = true := by rfl) (hg : Gl X x := by rfl) (hdb : (x == ("__debug__" : Str)) = false := by decide) : DSt X W (.Raise (some (.Call (.Name x p) [.Constant (.str m) j p2] [] p3)) none pos) (sErr x) :=
  dst_raise tk PySem.F.excBase_ValueError h.e.1 h.g h.e.2.1 (raises_own h.e.2.2.1 h.e.2.2.2) hc hg hdb
end
theorem exf_of {fa : List He.Fa} {fn : List He.DefD} {K : PySem.W.Frag} {mg : Str → Option Value} {h : Heap} (X : K.In h) (G : h.Ns mainGlobals mg) (c : He.SaysD fa fn K) {x : Str} (i j : Nat) (hi : fa[i]? = some (.glo x)) (hj : fa[j]? = some (.exc x)) : Exf K mg x :=
  ⟨He.glo_ok X G (c.fact i hi), He.exc_ok (c.fact j hj)⟩
end Dn

set_option Elab.async false
set_option linter.all false
set_option maxRecDepth 100000
set_option maxHeartbeats 1000000
/-! Dn10: list comprehensions. -/
namespace Dn
open PySem L2
def Wf : WX := fun _ _ _ _ => False
def noEr {α : Type} (m : M α) : M α := fun cs => match m cs with
  | .er _ _ => .no
  | o => o
def wipeS (ρ : List S) : List Nat → List S
  | [] => ρ
  | v :: vs => (wipeS ρ vs).set v .no
def lcL (tg : D → List S → Option (List S)) (t : List S → M Bool) (f : List S → M S) (ρ : List S) : List D → List D → M Rv
  | [], acc => ret (.own (.lst acc))
  | x :: xs, acc => match tg x ρ with
    | none => stuck
    | some ρ1 => bnd (noEr (t ρ1)) fun b => if b = true then bnd (noEr (f ρ1)) fun y => (match y with
        | .d d => if acc.length < sizeLine then lcL tg t f ρ xs (acc ++ [d]) else stuck
        | _ => stuck)
      else lcL tg t f ρ xs acc
def eLc (it : List S → M (List D)) (tg : D → List S → Option (List S)) (t : List S → M Bool) (f : List S → M S) (vs : List Nat) (ρ : List S) : M Rv :=
  bnd (it ρ) fun xs => lcL tg t f (wipeS ρ vs) xs []
def tYesM (_ : List S) : M Bool := ret true
/-- a block's target -/
def DGb (X : Cx) (vs : List Nat) (tg : Expr) (g : D → List S → Option (List S)) : Prop := ∃ t : TG, PG X tg t ∧ ∀ (B : Hp) (ca : List Addr) (ρ ρ' : List S) (cs : Store) (Hf : Hp) (σ : L2.St) (H : Hp) (v : V) (d : D) (Q : L2.St → Hp → Prop), Rel B ca ρ cs Hf σ H → Dd Hf v d → g d ρ = some ρ' →
  (∀ σ', wipe σ' vs = wipe σ vs → Rel B ca ρ' cs Hf σ' H → Q σ' H) → t v σ H Q
def DGbs (X : Cx) (vs : List Nat) (tgs : List Expr) (g : List D → List S → Option (List S)) : Prop := ∃ t : TGs, PGs X tgs t ∧ ∀ (B : Hp) (ca : List Addr) (ρ ρ' : List S) (cs : Store) (Hf : Hp) (σ : L2.St) (H : Hp) (us : List V) (ds : List D) (Q : L2.St → Hp → Prop), Rel B ca ρ cs Hf σ H → Dds Hf us ds → g ds ρ = some ρ' →
  (∀ σ', wipe σ' vs = wipe σ vs → Rel B ca ρ' cs Hf σ' H → Q σ' H) → t us σ H Q
def DTs (X : Cx) (W : WX) (ifs : List Expr) (f : List S → M Bool) : Prop := ∃ t : TT, PTs X ifs t ∧ ∀ (B : Hp) (ca : List Addr) (ρ : List S) (cs : Store) (Hf : Hp) (σ : L2.St) (H : Hp) (Q : Bool → Hp → Prop), Rel B ca ρ cs Hf σ H →
  Gs X W B ca Hf ρ σ (f ρ cs) (fun _ _ H' _ b => Q b H') → t σ H Q
section
variable {X : Cx} {W : WX} {pos : Pos} {vs : List Nat}
theorem wipe_set {σ : St} {i : Nat} {x : Option V} : ∀ {vs : List Nat}, i ∈ vs → wipe (σ.set i x) vs = wipe σ vs
  | v :: vs, h => by
    show (wipe (σ.set i x) vs).set v none = (wipe σ vs).set v none
    by_cases hv : i ∈ vs
    · rw [wipe_set hv]
    · have e : i = v := by
        rcases List.mem_cons.1 h with h | h
        · exact h
        · exact absurd h hv
      subst e
      have : ∀ {vs : List Nat}, i ∉ vs → wipe (σ.set i x) vs = (wipe σ vs).set i x := by
        intro vs hv
        induction vs with
        | nil => rfl
        | cons v vs ih =>
          simp only [List.mem_cons, not_or] at hv
          show (wipe (σ.set i x) vs).set v none = ((wipe σ vs).set v none).set i x
          rw [ih hv.2, List.set_comm _ _ hv.1]
      rw [this hv, List.set_set]
theorem wipe_wipe (σ : St) : ∀ (vs us : List Nat), (∀ i ∈ us, i ∈ vs) → wipe (wipe σ us) vs = wipe σ vs
  | vs, [], _ => rfl
  | vs, u :: us, h => by
    show wipe ((wipe σ us).set u none) vs = wipe σ vs
    rw [wipe_set (h u (by simp)), wipe_wipe σ vs us fun i hi => h i (by simp [hi])]
theorem Rel.wipe {B : Hp} {ca : List Addr} {ρ : List S} {cs : Store} {Hf : Hp} {σ : L2.St} {H : Hp} (r : Rel B ca ρ cs Hf σ H) : ∀ vs : List Nat, Rel B ca (wipeS ρ vs) cs Hf (wipe σ vs) H
  | [] => r
  | v :: vs => (Rel.wipe r vs).lose v none
theorem dgb_name (i : Nat) {x : Str} (hN : X.N.Nodup) (hv : i ∈ vs := by decide) (hi : X.N[i]? = some x := by rfl) (hx : Loc X.env.scope x := by first | exact Or.inl rfl | exact Or.inr rfl)
    (hf : X.fn x = true ∨ X.env.scope.names.lookup x = some .local := by first | exact .inl rfl | exact .inr rfl) : DGb X vs (.Name x pos) (gtN i) := by
  refine ⟨_, pg_name hN hi hx hf, fun B ca ρ ρ' cs Hf σ H v d Q r hd e q => ?_⟩
  cases e
  exact q _ (wipe_set hv) (r.set i hd)
theorem dgbs_nil : DGbs X vs [] gtsNil := by
  refine ⟨_, pgs_nil, fun B ca ρ ρ' cs Hf σ H us ds Q r hv e q => ?_⟩
  unfold gtsNil at e
  split at e
  · cases e
    cases hv
    exact ⟨rfl, q _ rfl r⟩
  · cases e
theorem dgbs_cons {tg : Expr} {tgs : List Expr} {g : D → List S → Option (List S)} {gs : List D → List S → Option (List S)} (h : DGb X vs tg g) (hs : DGbs X vs tgs gs)
    (he : (assignEach (tg :: tgs) X.env).map (·.2) = assign tg X.env :: (assignEach tgs X.env).map (·.2) := by rfl) : DGbs X vs (tg :: tgs) (gtsCons g gs) := by
  obtain ⟨t, p, k⟩ := h
  obtain ⟨u, q, l⟩ := hs
  refine ⟨_, pgs_cons p q he, fun B ca ρ ρ' cs Hf σ H us ds Q r hv e qq => ?_⟩
  unfold gtsCons at e
  split at e
  · rename_i x xs
    cases hv with
    | cons hv ht =>
      cases z : g x ρ with
      | none => rw [z] at e; cases e
      | some ρ1 =>
        rw [z] at e
        exact ⟨_, _, rfl, k B ca ρ ρ1 cs Hf σ H _ _ _ r hv z fun σ1 w1 r1 => l B ca ρ1 ρ' cs Hf σ1 H _ _ Q r1 ht e fun σ2 w2 r2 => qq σ2 (w2.trans w1) r2⟩
  · cases e
theorem dgb_tup {es : List Expr} {k : Nat} {gs : List D → List S → Option (List S)} (n : Nat) (hs : DGbs X vs es gs) (hl : ∀ ds ρ ρ', gs ds ρ = some ρ' → ds.length = n) (hc : X.calm = true := by rfl)
    (hn : (assignEach es X.env).length = n := by rfl) (hst : (assignEach es X.env).findIdx? (·.1) = none := by rfl) : DGb X vs (.Tuple es k pos) (gtT gs) := by
  obtain ⟨u, q, l⟩ := hs
  refine ⟨_, pg_tup hc q hn hst, fun B ca ρ ρ' cs Hf σ H v d Q r hv e qq => ?_⟩
  unfold gtT at e
  split at e
  · rename_i xs
    cases hv with
    | tup h1 h2 =>
      exact ⟨_, _, rfl, .inl (rd_ex r.ext h1), (dps_len h2).trans (hl _ _ _ e), l B ca ρ ρ' cs Hf σ H _ _ Q r h2 e qq⟩
  · cases e
theorem dts_nil : DTs X W [] tYesM := ⟨_, pts_nil, fun B ca ρ cs Hf σ H Q r h => h.ret_ r⟩
theorem dts_one {c : Expr} {t : List S → M Bool} (h : DT X W c t) : DTs X W [c] t := let ⟨t, p, k⟩ := h; ⟨t, pts_one p, k⟩
theorem Gs.noEr_ {α : Type} {B : Hp} {ca : List Addr} {Hf : Hp} {ρ : List S} {σ : L2.St} {m : M α} {cs : Store} {β : Type} {k : α → M β} {P' : List Addr → Hp → Hp → Store → β → Prop} (h : Gs X W B ca Hf ρ σ (bnd (noEr m) k cs) P') :
    (∀ a cs', m cs = .ok a cs' → Gs X W B ca Hf ρ σ (k a cs') P') ∧ m cs ≠ .no ∧ ∀ c cs', m cs ≠ .er c cs' := by
  unfold bnd noEr at h
  cases e : m cs with
  | ok a cs' =>
    rw [e] at h
    refine ⟨fun a' cs'' e' => ?_, by simp, by simp⟩
    cases e'
    exact h
  | er c cs' => rw [e] at h; exact h.elim
  | no => rw [e] at h; exact h.elim
end
/-- banned things left out -/
theorem Rel.less {B B' : Hp} {ca : List Addr} {ρ : List S} {cs : Store} {Hf : Hp} {σ : L2.St} {H : Hp} (r : Rel B' ca ρ cs Hf σ H) (h : Ex B B') : Rel B ca ρ cs Hf σ H :=
  ⟨r.ext, r.len, r.sl, r.cells, r.lenc, r.nd, r.off, fun a o e => r.exb a o (h a o e), fun a e => r.dis a (by
    cases q : B a with
    | none => exact absurd q e
    | some o => rw [h a o q]; simp)⟩
section
variable {X : Cx} {W : WX} {pos : Pos} {elt tg iter : Expr} {ifs : List Expr} {scope : Scope} {own : List (Str × Nat)} {it : List S → M (List D)} {g : D → List S → Option (List S)} {t : List S → M Bool} {f : List S → M S}
def tgOf (g : D → List S → Option (List S)) (vs : List Nat) : TG := fun v σ H Q => ∃ (B : Hp) (ca : List Addr) (ρ ρ' : List S) (cs : Store) (Hf : Hp) (d : D), Rel B ca ρ cs Hf σ H ∧ Dd Hf v d ∧ g d ρ = some ρ' ∧ ∀ σ', wipe σ' vs = wipe σ vs → Rel B ca ρ' cs Hf σ' H → Q σ' H
def ttOf (X : Cx) (t : List S → M Bool) : TT := fun σ H Q => ∃ (B : Hp) (ca : List Addr) (ρ : List S) (cs : Store) (Hf : Hp), Rel B ca ρ cs Hf σ H ∧ Gs X Wf B ca Hf ρ σ (t ρ cs) (fun _ _ H' _ b => Q b H')
def teOf (X : Cx) (f : List S → M S) : TE := fun σ H Q => ∃ (B : Hp) (ca : List Addr) (ρ : List S) (cs : Store) (Hf : Hp), Rel B ca ρ cs Hf σ H ∧ Gs X Wf B ca Hf ρ σ (f ρ cs) (fun ca' Hf' H' _ s => ∀ v, SvOk ca' Hf' s v → Q v H')
/-- what a comprehension's loop asks -/
theorem lc_run {wi : TI} {vs : List Nat} (ki : ∀ (B : Hp) (ca : List Addr) (ρ : List S) (cs : Store) (Hf : Hp) (σ : L2.St) (H : Hp) (R : It → Hp → Prop), Rel B ca ρ cs Hf σ H →
    Gs X W B ca Hf ρ σ (it ρ cs) (fun ca' Hf' H' cs' xs => ∀ J, (∀ B2 ca2 ρ2 cs2 Hf2 σ2 H2 (i : Nat), Nx ca' Hf' ca2 Hf2 → Rel B2 ca2 ρ2 cs2 Hf2 σ2 H2 → i ≤ xs.length →
      (i = xs.length → J.stop i H2) ∧ (i < xs.length → J.go i H2 ∧ ∀ x H3, J.yld i H2 x H3 → ∃ Hf3, Nx ca2 Hf2 ca2 Hf3 ∧ Rel B2 ca2 ρ2 cs2 Hf3 σ2 H3 ∧ ∃ d, xs[i]? = some d ∧ Dd Hf3 x d)) → R J H') → wi σ H R)
    {B : Hp} {ca : List Addr} {ρ : List S} {cs : Store} {Hf : Hp} {σ : L2.St} {H : Hp} {Q : VK} (r : Rel B ca ρ cs Hf σ H) (h : Gs X W B ca Hf ρ σ (eLc it g t f vs ρ cs) (fun ca' Hf' H' _ rv => ∀ v, RvOk B ca' Hf' H' rv v → Q v H')) :
    tLc wi (tgOf g vs) (ttOf X t) (teOf X f) vs σ H Q := by
  refine ki B ca ρ cs Hf σ H _ r (h.bind.mono fun ca1 Hf1 H1 cs1 xs n1 r1 h1 J hJ => fun D hD => ?_)
  obtain ⟨d1, d2, d3⟩ := r1.newIn hD
  have exn : ∀ vs, Ex B (upd B D (.lst vs)) := fun vs => ex_new d3
  refine ⟨fun i m H2 => m = xs.length - i ∧ i ≤ xs.length ∧ ∃ ca2 cs2 Hf2 acc accV, Nx ca1 Hf1 ca2 Hf2 ∧ Dds Hf2 accV acc ∧ Rel (upd B D (.lst accV)) ca2 ρ cs2 Hf2 σ H2 ∧ Gs X W B ca2 Hf2 ρ σ (lcL g t f (wipeS ρ vs) (xs.drop i) acc cs2) (fun ca' Hf' H' _ rv => ∀ v, RvOk B ca' Hf' H' rv v → Q v H'),
    ⟨xs.length, by simp, Nat.zero_le _, ca1, cs1, Hf1, [], [], Nx.refl, .nil, ?_, h1⟩, ?_⟩
  · have r2 := r1.grow (ex_new (o := .lst []) hD)
    refine ⟨r2.ext, r2.len, r2.sl, r2.cells, r2.lenc, r2.nd, r2.off, fun a o e => ?_, fun a e => ?_⟩
    · by_cases q : a = D
      · subst q; rw [upd_same] at e ⊢; exact e
      · rw [upd_ne q] at e ⊢; exact r1.exb a o e
    · by_cases q : a = D
      · subst q; exact ⟨d1, d2⟩
      · rw [upd_ne q] at e; exact r1.dis a e
  rintro i m H2 ⟨rfl, hi, ca2, cs2, Hf2, acc, accV, n2, da, r2, h2⟩
  have r2B := r2.less (exn accV)
  obtain ⟨hstop, hgo⟩ := hJ (upd B D (.lst accV)) ca2 ρ cs2 Hf2 σ H2 i n2 r2 hi
  by_cases hlt : i < xs.length
  · obtain ⟨go, yl⟩ := hgo hlt
    refine .inr ⟨go, fun H' => i + 1 ≤ xs.length ∧ ∃ ca2 cs2 Hf2 acc accV, Nx ca1 Hf1 ca2 Hf2 ∧ Dds Hf2 accV acc ∧ Rel (upd B D (.lst accV)) ca2 ρ cs2 Hf2 σ H' ∧ Gs X W B ca2 Hf2 ρ σ (lcL g t f (wipeS ρ vs) (xs.drop (i + 1)) acc cs2) (fun ca' Hf' H' _ rv => ∀ v, RvOk B ca' Hf' H' rv v → Q v H'),
      fun H' p' => ⟨xs.length - (i + 1), by omega, rfl, p'.1, p'.2⟩, fun x H3 y => ?_⟩
    obtain ⟨Hf3, n3, r3, d, ed, hd⟩ := yl x H3 y
    have ed' : xs.drop i = d :: xs.drop (i + 1) := by
      rw [List.drop_eq_getElem_cons hlt]
      rw [List.getElem?_eq_getElem hlt] at ed
      rw [Option.some.inj ed]
    rw [ed'] at h2
    unfold lcL at h2
    cases eg : g d (wipeS ρ vs) with
    | none => rw [eg] at h2; exact h2.elim
    | some ρ1 =>
      rw [eg] at h2
      refine ⟨upd B D (.lst accV), ca2, wipeS ρ vs, ρ1, cs2, Hf3, d, r3.wipe vs, hd, eg, fun σ2 w2 r4 => ⟨w2.trans (wipe_wipe σ vs vs fun _ h => h), ?_⟩⟩
      have h3 := Gs.fwd h2 n3
      obtain ⟨k1, k2, k3⟩ := Gs.noEr_ h3
      refine ⟨upd B D (.lst accV), ca2, ρ1, cs2, Hf3, r4, ?_⟩
      cases et : t ρ1 cs2 with
      | no => exact absurd et k2
      | er c cs' => exact absurd et (k3 c cs')
      | ok b cs3 =>
        have h4 := k1 b cs3 et
        intro ca4 Hf4 H4 n4 r5
        have back := fun {σ' : L2.St} {ρ' : List S} {cs' : Store} {ca' : List Addr} {Hf' H' : Hp} {V : List V} (n : Nx ca2 Hf2 ca' Hf') (r' : Rel (upd B D (.lst V)) ca' ρ' cs' Hf' σ' H') => Rel.slots (ρ' := ρ) (σ' := σ) r' r2.len fun i s e => by
          rcases r2.sl i s e with z | ⟨v, h1, h2⟩
          · exact .inl z
          · exact .inr ⟨v, h1, h2.nx n⟩
        cases b with
        | false =>
          refine ⟨hlt, ca4, cs3, Hf4, acc, accV, (n2.trans n3).trans n4, dps_ex (n3.trans n4).ex da, back (n3.trans n4) r5, ?_⟩
          exact Gs.fwd h4 n4
        | true =>
          have h5 := Gs.fwd h4 n4
          obtain ⟨j1, j2, j3⟩ := Gs.noEr_ h5
          refine ⟨upd B D (.lst accV), ca4, ρ1, cs3, Hf4, r5, ?_⟩
          cases ef : f ρ1 cs3 with
          | no => exact absurd ef j2
          | er c cs' => exact absurd ef (j3 c cs')
          | ok y cs4 =>
            have h6 := j1 y cs4 ef
            intro ca5 Hf5 H5 n5 r6 v hv
            cases y with
            | no => exact h6.elim
            | cel j => exact h6.elim
            | fn a => exact h6.elim
            | d z =>
              have h7 : Gs X W B ca4 Hf4 ρ σ ((if acc.length < sizeLine then lcL g t f (wipeS ρ vs) (xs.drop (i + 1)) (acc ++ [z]) else stuck) cs4) _ := h6
              split at h7
              · rename_i hz
                have hl := dps_len da
                refine ⟨accV, r6.exb D _ upd_same, by rw [hl]; exact hz, hlt, ca5, cs4, Hf5, acc ++ [z], accV ++ [v], ((n2.trans n3).trans n4).trans n5, dps_app (dps_ex ((n3.trans n4).trans n5).ex da) (.cons hv .nil), ?_, Gs.fwd h7 n5⟩
                have r7 := back ((n3.trans n4).trans n5) r6
                have dD := r7.dis D (by rw [upd_same]; simp)
                refine ⟨fun a o e => ?_, r7.len, r7.sl, fun j o e => ?_, r7.lenc, r7.nd, r7.off, fun a o e => ?_, fun a e => ?_⟩
                · by_cases q : a = D
                  · subst q; rw [dD.1] at e; cases e
                  · rw [upd_ne q]; exact r7.ext a o e
                · obtain ⟨a, g1, g2⟩ := r7.cells j o e
                  refine ⟨a, g1, g2.at (upd_ne ?_) fun _ _ h => h⟩
                  intro q
                  subst q
                  exact dD.2 (List.mem_of_getElem? g1)
                · by_cases q : a = D
                  · subst q; rw [upd_same] at e ⊢; exact e
                  · rw [upd_ne q] at e ⊢
                    exact r7.exb a o (by rw [upd_ne q]; exact e)
                · by_cases q : a = D
                  · subst q; exact dD
                  · rw [upd_ne q] at e; exact r7.dis a (by rw [upd_ne q]; exact e)
              · exact h7.elim
  · have e : i = xs.length := by omega
    refine .inl ⟨hstop e, ?_⟩
    rw [e, List.drop_length] at h2
    have h3 := Gs.ret_ (show Gs X W B ca2 Hf2 ρ σ (ret (Rv.own (OC.lst acc)) cs2) (fun ca' Hf' H' _ rv => ∀ v, RvOk B ca' Hf' H' rv v → Q v H') from h2) r2B
    have dD := r2.dis D (by rw [upd_same]; simp)
    exact h3 (.ref D) ⟨D, rfl, ⟨accV, r2.exb D _ upd_same, da⟩, dD.1, dD.2, d3⟩
theorem do_lc (own : List (Str × Nat)) (hN : X.N.Nodup) (hi : DI X W tg iter it)
    (hg : ∀ (s : Shared) (H : Hp) (C : Addr) (cl : List (Str × Addr)) (fp : List Addr), DGb (X.blk s H scope (compEnvC scope cl C X.env) fp) (own.map (·.2)) tg g)
    (ht : ∀ (s : Shared) (H : Hp) (C : Addr) (cl : List (Str × Addr)) (fp : List Addr), DTs (X.blk s H scope (compEnvC scope cl C X.env) fp) Wf ifs t)
    (he : ∀ (s : Shared) (H : Hp) (C : Addr) (cl : List (Str × Addr)) (fp : List Addr), DE (X.blk s H scope (compEnvC scope cl C X.env) fp) Wf elt f)
    (hk : blkC X.N X.env.scope scope own = true := by rfl) (hc : X.calm = true := by rfl) (hs : ∀ x, foldedSetIterable iter X.env x = pure x := by intro _; rfl) :
    DO X W (.ListComp elt [⟨tg, iter, ifs, 0⟩] scope pos) (eLc it g t f (own.map (·.2))) := by
  obtain ⟨wi, pi, ki⟩ := hi
  refine ⟨_, pe_lc (g := tgOf g (own.map (·.2))) (tt := ttOf X t) (te := teOf X f) hc hN pi (blkOk_by hk) (fun s H C cl fp => ?_) (fun s H C cl fp => ?_) (fun s H C cl fp => ?_) hs, fun B ca ρ cs Hf σ H Q r h => lc_run ki r h⟩
  · obtain ⟨t', p, k⟩ := hg s H C cl fp
    exact ⟨fun pins s σ H v u Q I rv ⟨B, ca, ρ, ρ', cs, Hf, d, r, hd, e, q⟩ => p.run pins s σ H v u Q I rv (k B ca ρ ρ' cs Hf σ H v d Q r hd e q)⟩
  · obtain ⟨t', p, k⟩ := ht s H C cl fp
    exact ⟨fun pins s σ H Q I ⟨B, ca, ρ, cs, Hf, r, h⟩ => p.run pins s σ H Q I (k B ca ρ cs Hf σ H Q r h)⟩
  · obtain ⟨t', p, k⟩ := he s H C cl fp
    exact ⟨fun pins s σ H Q I ⟨B, ca, ρ, cs, Hf, r, h⟩ => p.run pins s σ H Q I (k B ca ρ cs Hf σ H Q r h)⟩
/-- name = [..], on one line -/
theorem dst_newLc (i : Nat) (own : List (Str × Nat)) {y : Str} {py spos : Pos} (hN : X.N.Nodup) (hi : DI X W tg iter it)
    (hg : ∀ (s : Shared) (H : Hp) (C : Addr) (cl : List (Str × Addr)) (fp : List Addr), DGb (X.blk s H scope (compEnvC scope cl C X.env) fp) (own.map (·.2)) tg g)
    (ht : ∀ (s : Shared) (H : Hp) (C : Addr) (cl : List (Str × Addr)) (fp : List Addr), DTs (X.blk s H scope (compEnvC scope cl C X.env) fp) Wf ifs t)
    (he : ∀ (s : Shared) (H : Hp) (C : Addr) (cl : List (Str × Addr)) (fp : List Addr), DE (X.blk s H scope (compEnvC scope cl C X.env) fp) Wf elt f)
    (hy : X.N[i]? = some y := by rfl) (hyl : X.env.scope.names.lookup y = some .local := by rfl) (hkf : X.env.scope.kind = .function := by rfl) (hl : (py.line == pos.line) = true := by rfl)
    (hL : pos.line = spos.line := by rfl) (ha : (scope.names.any fun (n, k) => n == y && (k == .local || k == .cell)) = false := by rfl)
    (hk : blkC X.N X.env.scope scope own = true := by rfl) (hc : X.calm = true := by rfl) (hs : ∀ x, foldedSetIterable iter X.env x = pure x := by intro _; rfl) :
    DSt X W (.Assign [.Name y py] (.ListComp elt [⟨tg, iter, ifs, 0⟩] scope pos) spos) (sNew i (eLc it g t f (own.map (·.2)))) := by
  obtain ⟨wi, pi, ki⟩ := hi
  refine ⟨_, ps_setLc (g := tgOf g (own.map (·.2))) (tt := ttOf X t) (te := teOf X f) hc hN hy hyl (sw_true hkf hyl hl ha) pi (blkOk_by hk) (fun s H C cl fp => ?_) (fun s H C cl fp => ?_) (fun s H C cl fp => ?_) hs, fun B ca ρ cs Hf σ H En r hg => ?_⟩
  · obtain ⟨t', p, k⟩ := hg s H C cl fp
    exact ⟨fun pins s σ H v u Q I rv ⟨B, ca, ρ, ρ', cs, Hf, d, r, hd, e, q⟩ => p.run pins s σ H v u Q I rv (k B ca ρ ρ' cs Hf σ H v d Q r hd e q)⟩
  · obtain ⟨t', p, k⟩ := ht s H C cl fp
    exact ⟨fun pins s σ H Q I ⟨B, ca, ρ, cs, Hf, r, h⟩ => p.run pins s σ H Q I (k B ca ρ cs Hf σ H Q r h)⟩
  · obtain ⟨t', p, k⟩ := he s H C cl fp
    exact ⟨fun pins s σ H Q I ⟨B, ca, ρ, cs, Hf, r, h⟩ => p.run pins s σ H Q I (k B ca ρ cs Hf σ H Q r h)⟩
  · refine lc_run (W := W) ki r (hg.stp_.mono fun ca1 Hf1 H1 cs1 rv n1 r1 h1 v hv => ?_)
    cases rv with
    | d x => exact h1.nx_ (r1.set (s := .d x) i hv)
    | cel j => exact h1.nx_ (r1.set (s := .cel j) i hv)
    | own o =>
      obtain ⟨a, rfl, r2, e2⟩ := r1.alloc hv
      exact h1 (ca1 ++ [a]) Hf1 _ H1 ⟨List.prefix_append _ _, fun _ _ h => h⟩ (r2.set (s := .cel cs1.length) i ⟨a, e2, rfl⟩)
/-- name = [..], on one line -/
theorem dst_setLc (i : Nat) (own : List (Str × Nat)) {y : Str} {py spos : Pos} (hN : X.N.Nodup) (hi : DI X W tg iter it)
    (hg : ∀ (s : Shared) (H : Hp) (C : Addr) (cl : List (Str × Addr)) (fp : List Addr), DGb (X.blk s H scope (compEnvC scope cl C X.env) fp) (own.map (·.2)) tg g)
    (ht : ∀ (s : Shared) (H : Hp) (C : Addr) (cl : List (Str × Addr)) (fp : List Addr), DTs (X.blk s H scope (compEnvC scope cl C X.env) fp) Wf ifs t)
    (he : ∀ (s : Shared) (H : Hp) (C : Addr) (cl : List (Str × Addr)) (fp : List Addr), DE (X.blk s H scope (compEnvC scope cl C X.env) fp) Wf elt f)
    (hy : X.N[i]? = some y := by rfl) (hyl : X.env.scope.names.lookup y = some .local := by rfl) (hkf : X.env.scope.kind = .function := by rfl) (hl : (py.line == pos.line) = true := by rfl)
    (hL : pos.line = spos.line := by rfl) (ha : (scope.names.any fun (n, k) => n == y && (k == .local || k == .cell)) = false := by rfl)
    (hk : blkC X.N X.env.scope scope own = true := by rfl) (hc : X.calm = true := by rfl) (hs : ∀ x, foldedSetIterable iter X.env x = pure x := by intro _; rfl) :
    DSt X W (.Assign [.Name y py] (.ListComp elt [⟨tg, iter, ifs, 0⟩] scope pos) spos) (sSet i (eFrz (eLc it g t f (own.map (·.2))))) := by
  obtain ⟨wi, pi, ki⟩ := hi
  refine ⟨_, ps_setLc (g := tgOf g (own.map (·.2))) (tt := ttOf X t) (te := teOf X f) hc hN hy hyl (sw_true hkf hyl hl ha) pi (blkOk_by hk) (fun s H C cl fp => ?_) (fun s H C cl fp => ?_) (fun s H C cl fp => ?_) hs, fun B ca ρ cs Hf σ H En r hg => ?_⟩
  · obtain ⟨t', p, k⟩ := hg s H C cl fp
    exact ⟨fun pins s σ H v u Q I rv ⟨B, ca, ρ, ρ', cs, Hf, d, r, hd, e, q⟩ => p.run pins s σ H v u Q I rv (k B ca ρ ρ' cs Hf σ H v d Q r hd e q)⟩
  · obtain ⟨t', p, k⟩ := ht s H C cl fp
    exact ⟨fun pins s σ H Q I ⟨B, ca, ρ, cs, Hf, r, h⟩ => p.run pins s σ H Q I (k B ca ρ cs Hf σ H Q r h)⟩
  · obtain ⟨t', p, k⟩ := he s H C cl fp
    exact ⟨fun pins s σ H Q I ⟨B, ca, ρ, cs, Hf, r, h⟩ => p.run pins s σ H Q I (k B ca ρ cs Hf σ H Q r h)⟩
  · refine lc_run (W := W) ki r (hg.stp_.bind.mono fun ca1 Hf1 H1 cs1 rv n1 r1 h1 v hv => ?_)
    cases rv with
    | d x => exact GO.nx_ ((show Gs X W B ca1 Hf1 ρ σ (ret (S.d x) cs1) _ from h1).ret_ r1) (r1.set (s := .d x) i hv)
    | cel j => exact GO.nx_ ((show Gs X W B ca1 Hf1 ρ σ (ret (S.cel j) cs1) _ from h1).ret_ r1) (r1.set (s := .cel j) i hv)
    | own o =>
      cases o with
      | lst xs =>
        obtain ⟨Hf2, r2, n2, dd⟩ := r1.own hv
        exact GO.nx_ ((Gs.fwd (show Gs X W B ca1 Hf1 ρ σ (ret (S.d (.list xs)) cs1) _ from h1) n2).ret_ r2) (r2.set (s := .d (.list xs)) i dd)
      | dK kvs => exact h1.elim
theorem takesWf : Takes X Wf := fun _ _ h => by
  obtain ⟨_, _, _, _, _, _, _, _, _, _, _, _, _, _, _, _, z⟩ := h
  exact z.elim
end
end Dn

set_option Elab.async false
set_option linter.all false
set_option maxRecDepth 100000
set_option maxHeartbeats 4000000
/-! Dn11: len(set(xs)), walks over texts. -/
namespace Dn
open PySem L2
open PySem.Spec
def mK (l : List Key) (k : Key) : Bool := l.any fun x => decide (x = k)
theorem mK_iff (l : List Key) (k : Key) : mK l k = true ↔ k ∈ l := by simp [mK]
def dd1 (l : List Key) (k : Key) : List Key := if mK l k = true then l else l ++ [k]
/-- what is met first, of keys -/
def fmK (ks : List Key) : List Key := ks.foldl dd1 []
theorem fmK_snoc (ks : List Key) (k : Key) : fmK (ks ++ [k]) = dd1 (fmK ks) k := by
  unfold fmK; rw [List.foldl_append]; rfl
theorem sd_any (l : List Key) (v k : Key) : mK (dd1 l v) k = (mK l k || decide (k = v)) := by
  unfold dd1
  by_cases h : mK l v = true
  · rw [if_pos h]
    by_cases e : k = v
    · subst e; simp [h]
    · simp [e]
  · rw [if_neg h]
    simp only [mK, List.any_append, List.any_cons, List.any_nil, Bool.or_false]
    congr 1
    exact decide_eq_decide.2 eq_comm
theorem sd_len (l : List Key) (v : Key) : (dd1 l v).length = if mK l v = true then l.length else l.length + 1 := by
  unfold dd1; split <;> simp
theorem fmK_le0 (ks : List Key) : ∀ l : List Key, (ks.foldl dd1 l).length ≤ l.length + ks.length := by
  induction ks with
  | nil => intro l; exact Nat.le_refl _
  | cons k ks ih =>
    intro l
    have h := ih (dd1 l k)
    have h2 := sd_len l k
    rw [List.foldl_cons, List.length_cons]
    split at h2 <;> omega
theorem fmK_le (ks : List Key) : (fmK ks).length ≤ ks.length := by
  have := fmK_le0 ks []
  simpa [fmK] using this
section
variable {prog : Program} {w : World}
theorem setCongr {h : Heap} {a : Addr} {S S' : Key → Bool} {n n' : Nat} (hS : h.SetOf (mixKind prog w) a S n) (e : ∀ k, S k = S' k) (en : n = n') : h.SetOf (mixKind prog w) a S' n' := by
  obtain rfl : S = S' := funext e
  subst en
  exact hS
variable {A : Around} {R : Result → Shared → Prop} {I : Addr} {fp wr : List Addr} {G : Array GenState → Array GenState → Prop} {P : Nat → Value → Prop} {St : Nat → Shared → Prop}
theorem setLoop {n : Nat} (ks : List Key) (W : WalksS prog w A.in1 I fp wr G n P St) (hn : ks.length = n) (D : Addr) (hD : D ∉ fp)
    (hval : ∀ j v k, P j v → ks[j]? = some k → (mixKind prog w).is k v = true) (hb : ks.length + 1 < scanBound) (m : Nat) :
    ∀ (j : Nat) (s1 : Shared), ks.length - j = m → j ≤ ks.length → St j s1 →
      s1.heap.SetOf (mixKind prog w) D (fun k' => mK (fmK (ks.take j)) k') (fmK (ks.take j)).length →
      (∀ s2, Moved (D :: wr) G s1 s2 → s2.heap.SetOf (mixKind prog w) D (fun k' => mK (fmK ks) k') (fmK ks).length → R (.ok (.ret .none)) s2) →
      codeAny (model prog w) A (.builtin "set.update.loop" ⟨[.ref D, .ref I], []⟩) R s1 := by
  subst hn
  have nD : D ∉ wr := fun z => hD (W.sub _ z)
  have up : ∀ b ∈ wr, b ∈ D :: wr := fun b hb => List.mem_cons_of_mem _ hb
  induction m with
  | zero =>
    intro j s1 hk hj hst hS hR
    obtain rfl : j = ks.length := by omega
    rw [List.take_length] at hS
    refine codeAny_builtin PyProof.Rows.F.entry_set_update_loop ?_
    rw [Around.under_plainId PyProof.Rows.F.plain_set_update_loop _]
    show wpAny _ A.in1 (pyNext (.ref I) >>= _) _ _ s1
    refine wpAny_bind (W.done s1 _ _ hst fun s2 hm => ?_)
    show wpAny _ A.in1 (PySem.ret Value.none) _ _ s2
    refine wpAny_pure (hR s2 (hm.mono up) ?_)
    obtain ⟨o, es, ep, t, ho, rest⟩ := hS
    exact ⟨o, es, ep, t, hm.heap D _ nD ho, rest⟩
  | succ m ih =>
    intro j s1 hk hj hst hS hR
    have lt : j < ks.length := by omega
    have ek : ks[j]? = some ks[j] := by simp [lt]
    have et : ks.take (j + 1) = ks.take j ++ [ks[j]] := by rw [List.take_succ, ek]; rfl
    refine codeAny_builtin PyProof.Rows.F.entry_set_update_loop ?_
    rw [Around.under_plainId PyProof.Rows.F.plain_set_update_loop _]
    show wpAny _ A.in1 (pyNext (.ref I) >>= _) _ _ s1
    refine wpAny_bind (W.item j s1 _ _ lt hst fun v s2 hP hst2 hm => ?_)
    have hv := hval j v _ hP ek
    have hS2 : s2.heap.SetOf (mixKind prog w) D (fun k' => mK (fmK (ks.take j)) k') (fmK (ks.take j)).length := by
      obtain ⟨o, es, ep, t, ho, rest⟩ := hS
      exact ⟨o, es, ep, t, hm.heap D _ nD ho, rest⟩
    show wpAny _ A.in1 (holding [v] (setAdd D v) >>= _) _ _ s2
    refine wpAny_bind (wpAny_holding ?_)
    unfold setAdd
    refine wpAny_holding ?_
    refine wpAny_bind ((mixKind prog w).pyHash (k := ks[j]) hv ?_)
    have room : (fmK (ks.take j)).length + 1 < scanBound := by
      have := fmK_le (ks.take j)
      rw [List.length_take] at this
      omega
    have sc : v.scannable = true := by
      rcases keyIs_shape hv with ⟨i, t, _, rfl⟩ | ⟨x, t, _, rfl⟩ <;> rfl
    refine wpAny_setAddHashed_of (knd := mixKind prog w) (s := { s2 with toks := s2.toks + 1 }) hv sc hS2 room fun h3 hsb hS3 => ?_
    have hS4 : h3.SetOf (mixKind prog w) D (fun k' => mK (fmK (ks.take (j + 1))) k') (fmK (ks.take (j + 1))).length := by
      rw [et, fmK_snoc]
      exact setCongr hS3 (fun k' => by rw [sd_any]) (by rw [sd_len])
    refine wpAny_pure ⟨plainId_quiet PyProof.Rows.F.plain_set_update_loop _, ih (j + 1) _ (by omega) lt (W.frame _ s2 _ _ hst2 (Nat.le_succ _) fun b hb o e => ?_) hS4 fun s5 hm5 hS5 => ?_⟩
    · rw [hsb.2 b (fun z : b = D => hD (by rw [← z]; exact hb))]; exact e
    · refine hR s5 (Moved.trans W.gtrans ((hm.mono up).then_heap (Nat.le_succ _) fun b o hb e => ?_) hm5) hS5
      rw [hsb.2 b (fun z : b = D => hb (by rw [z]; exact List.mem_cons_self))]; exact e
end
/-- keys of data -/
def kyD : D → Option Key
  | .int i => some (.inl i)
  | .str x => some (.inr x)
  | _ => none
def kysD : List D → Option (List Key)
  | [] => some []
  | x :: xs => match kyD x, kysD xs with
    | some k, some ks => some (k :: ks)
    | _, _ => none
section
variable {P : Program} {w : World} {A : Around} {E : Value → Shared → Prop} {s0 : Shared}
abbrev freshSet (led : Bool) : Obj := { cls := .type "set", dict := none, data := .set #[] 0 (.fresh 0 0 led) }
/-- set(xs), xs a list or a tuple -/
theorem setCall (tup : Bool) {l : Addr} {items : Array Value} {ks : List Key} {Q : Value → Shared → Prop}
    (hh : A.handled = none) (hl : if tup = true then s0.heap.IsTuple l items else s0.heap.IsList l items) (hk : ks.length = items.size) (hi : ∀ (j : Nat) (v : Value) (k : Key), items[j]? = some v → ks[j]? = some k → (mixKind P w).is k v = true) (hb : ks.length + 1 < scanBound)
    (h : ∀ (g : Heap) (tk : Nat), g.SetOf (mixKind P w) s0.heap.objs.size (fun k' => mK (fmK ks) k') (fmK ks).length →
      (∀ b o, b < s0.heap.objs.size → s0.heap.get? b = some o → g.get? b = some o) → Q (.ref s0.heap.objs.size) { s0 with heap := g, toks := tk }) :
    wpAny (model P w) A (call (.type "set") [.ref l]) Q E s0 := by
  obtain ⟨c, tl, q1⟩ := PySem.F.called_set.mro
  have q2 := PySem.F.called_set.made
  have q3 := PySem.F.called_set.sub
  refine wpAny_call (codeAny_of_tree ?_)
  show wpAny _ _ (callAny (.type "set") _) _ _ _
  refine wpAny_pure ⟨Code.quiet_builtin _ (by decide +kernel), codeAny_builtin PySem.F.entry_type_call ?_⟩
  rw [Around.under_plain (weight_type_call_type "set" [.ref l] []) rfl]
  have q4 := PySem.F.called_set.notType
  have q5 := PySem.F.called_set.canCreate
  have q6 := PySem.F.typeCall_set_1 (.ref l)
  repeat (any_goals (first | assumption | wp_step))
  generalize hD : s0.heap.objs.size = D at *
  refine codeAny_mono (code_set_new_1 (.ref l) (E := E) (Q₁ := fun u s1 => ∃ led : Bool, u = .ref D ∧ s1 = { s0 with heap := s0.heap.push (freshSet led) }) fun led => ⟨led, by rw [hD], rfl⟩) fun r s1 hr => ?_
  cases r with
  | error e => exact hr
  | ok fl =>
    cases fl with
    | ret u =>
      obtain ⟨led, rfl, rfl⟩ := hr
      have gS : (s0.heap.push (freshSet led)).get? D = some (freshSet led) := by rw [← hD]; exact Heap.get?_push_size _ rfl
      have hT : Shared.TypeIs { s0 with heap := s0.heap.push (freshSet led) } (.ref D) "set" := ⟨_, gS, rfl⟩
      have q7 := PySem.F.called_set.init.lookup
      have q8 := PySem.F.called_set.init.bind (.ref D)
      repeat (any_goals (first | assumption | wp_step))
      refine codeAny_mono (codeAny_call_builtin (R := wants (fun r s2 => r = .none ∧ ∃ g tk, s2 = { s0 with heap := g, toks := tk } ∧ g.SetOf (mixKind P w) D (fun k' => mK (fmK ks) k') (fmK ks).length ∧
          (∀ b o, b < D → s0.heap.get? b = some o → g.get? b = some o)) E) PySem.F.called_set.init.plain PySem.F.entry_set_init (check_set_init_1 hT ?_)) fun r2 s2 hr2 => ?_
      · have h3 : A.in1.in1.in1.handled = none := by simp [hh]
        have zero : ∀ o : Obj, ((s0.heap.push (freshSet led)).push o).SetOf (mixKind P w) D (fun k' => mK (fmK (ks.take 0)) k') (fmK (ks.take 0)).length := fun o =>
          ⟨_, #[], 0, _, Heap.get?_push_of_some _ gS, ⟨rfl, rfl, rfl⟩, rfl, (fun e he => by simp at he), (fun k => by simp [fmK, mK]), (by decide), (by rfl), rfl⟩
        have fin : ∀ (o : Obj) (lp : Nat) (s3 : Shared), lp = (s0.heap.push (freshSet led)).objs.size → Moved [D, lp] (fun g g' => g' = g) { s0 with heap := (s0.heap.push (freshSet led)).push o } s3 → s3.heap.SetOf (mixKind P w) D (fun k' => mK (fmK ks) k') (fmK ks).length →
            (∃ g tk, s3 = { s0 with heap := g, toks := tk } ∧ g.SetOf (mixKind P w) D (fun k' => mK (fmK ks) k') (fmK ks).length ∧ (∀ b o, b < D → s0.heap.get? b = some o → g.get? b = some o)) := fun o lp s3 ew hm hS => by
          obtain ⟨g, gn, dr, tk, os⟩ := s3
          have e1 : gn = s0.gens := hm.gens
          have e2 : dr = s0.drawn := hm.drawn
          have e3 : os = s0.os := hm.os
          subst e1; subst e2; subst e3
          refine ⟨g, tk, rfl, hS, fun b u hb e => hm.heap b u ?_ (Heap.get?_push_of_some _ (Heap.get?_push_of_some _ e))⟩
          rw [Heap.size_push, hD] at ew
          simp only [List.mem_cons, List.not_mem_nil, or_false, not_or]
          refine ⟨Nat.ne_of_lt hb, ?_⟩
          rw [ew]
          exact Nat.ne_of_lt (Nat.lt_succ_of_lt hb)
        have lD : ∀ (o : Obj), s0.heap.get? l = some o → l < D := fun o e => by rw [← hD]; exact Heap.lt_size e
        have out : ∀ (I : Addr), I = (s0.heap.push (freshSet led)).objs.size → l < D → l ≠ I ∧ D ∉ [I, l] := fun I e z => by
          rw [Heap.size_push, hD] at e
          simp only [List.mem_cons, List.not_mem_nil, or_false, not_or]
          subst e
          exact ⟨Nat.ne_of_lt (Nat.lt_succ_of_lt z), Nat.ne_of_lt (Nat.lt_succ_self _), Nat.ne_of_gt z⟩
        cases tup with
        | false =>
          have hl' : s0.heap.IsList l items := hl
          obtain ⟨⟨oc, od, oda, osl⟩, g1, g2, nl, g3⟩ := hl'
          simp only at g2 g3
          subst g2; subst g3
          have g4 : (s0.heap.push (freshSet led)).get? l = some { cls := .type "list", dict := od, data := .seq items nl, slots := osl } := Heap.get?_push_of_some _ g1
          have q9 := PySem.F.sub_list_set
          have q10 := PySem.F.sub_list_frozenset
          have q11 : (Value.type "list" == Value.type "dict") = false := by decide
          have l1 : (s0.heap.push (freshSet led)).IsList l items := ⟨_, g4, rfl, nl, rfl⟩
          obtain ⟨n1, n2⟩ := out _ rfl (lD _ g1)
          unfold Builtin.«set.__init__» noKeywords Builtin.Frozenset.updateFrom
          generalize hPI : pyIter = PI
          wp_walk
          subst hPI
          refine wpAny_pyIter_list l1 ?_
          refine wpAny_bind (wpAny_runValue ?_)
          refine setLoop (P := fun j v => items[j]? = some v) ks (Walks.list h3 _ l n1 items).toS hk D n2 (fun j v k a b => hi j v k a b) hb (ks.length - 0) 0 _ rfl (Nat.zero_le _)
            ⟨⟨_, Heap.get?_push_size _ rfl, rfl, rfl⟩, l1.push _⟩ (zero _) fun s3 hm hS => ?_
          show wpAny _ _ _ _ _ _
          refine wpAny_pure ?_
          show wpAny _ _ (PySem.ret Value.none) _ _ _
          exact wpAny_pure ⟨rfl, fin _ _ _ rfl hm hS⟩
        | true =>
          have hl' : s0.heap.IsTuple l items := hl
          obtain ⟨⟨oc, od, oda, osl⟩, g1, g2, nl, g3⟩ := hl'
          simp only at g2 g3
          subst g2; subst g3
          have g4 : (s0.heap.push (freshSet led)).get? l = some { cls := .type "tuple", dict := od, data := .seq items nl, slots := osl } := Heap.get?_push_of_some _ g1
          have q9 := PySem.F.sub_tuple_set
          have q10 := PySem.F.sub_tuple_frozenset
          have q11 : (Value.type "tuple" == Value.type "dict") = false := by decide
          have l1 : (s0.heap.push (freshSet led)).IsTuple l items := ⟨_, g4, rfl, nl, rfl⟩
          obtain ⟨n1, n2⟩ := out _ rfl (lD _ g1)
          unfold Builtin.«set.__init__» noKeywords Builtin.Frozenset.updateFrom
          generalize hPI : pyIter = PI
          wp_walk
          subst hPI
          refine wpAny_pyIter_tuple l1 ?_
          refine wpAny_bind (wpAny_runValue ?_)
          refine setLoop (P := fun j v => items[j]? = some v) ks (Walks.tuple h3 _ l n1 items).toS hk D n2 (fun j v k a b => hi j v k a b) hb (ks.length - 0) 0 _ rfl (Nat.zero_le _)
            ⟨⟨_, Heap.get?_push_size _ rfl, rfl, rfl⟩, l1.push _⟩ (zero _) fun s3 hm hS => ?_
          show wpAny _ _ _ _ _ _
          refine wpAny_pure ?_
          show wpAny _ _ (PySem.ret Value.none) _ _ _
          exact wpAny_pure ⟨rfl, fin _ _ _ rfl hm hS⟩
      · cases r2 with
        | error e => exact hr2
        | ok fl2 =>
          cases fl2 with
          | ret r =>
            obtain ⟨rfl, g, tk, rfl, hS, hk2⟩ := hr2
            repeat (any_goals (first | assumption | wp_step))
            exact h _ _ hS hk2
          | _ => exact hr2.elim
    | _ => exact hr.elim
end
section
variable {X : Cx} {W : WX} {a : Expr} {f : List S → M S}
def tLnS (K : PySem.W.Frag) (ta : TE) : TE := fun σ H Q => ta σ H fun x H1 => ∃ (b : Bool) (l : Addr) (vs : List V) (ks : List Key), x = V.ref l ∧ (if b = true then SqT K H1 l vs else SqL K H1 l vs) ∧ vs = ks.map kV ∧ ks.length + 1 < scanBound ∧ Q (.int (fmK ks).length) H1
theorem vals_keys {P : Program} {w : World} : ∀ {ks : List Key} {us : List Value}, Vals (ks.map kV) us → ∀ (j : Nat) (v : Value) (k : Key), us[j]? = some v → ks[j]? = some k → (mixKind P w).is k v = true
  | [], _, .nil, j, v, k, h, _ => by simp at h
  | k0 :: ks, _, .cons r t, 0, v, k, h, e => by
    simp at h e
    subst h; subst e
    cases k0 with
    | inl i =>
      obtain ⟨q, rfl⟩ := r
      simp [mixKind, keyIs, Value.isInt, Value.isStrOf]
    | inr x =>
      obtain ⟨q, rfl⟩ := r
      simp [mixKind, keyIs, Value.isInt, Value.isStrOf]
  | k0 :: ks, _, .cons r t, j + 1, v, k, h, e => vals_keys t j v k (by simpa using h) (by simpa using e)
theorem pe_lnS {ta : TE} {p p2 q pos : Pos} (hc : X.calm = true) (hg : Gl X "len") (hm : X.mg "len" = none) (hg2 : Gl X "set") (hm2 : X.mg "set" = none) (ha : PE X a ta)
    (na : starEach [a] X.env = (false, eval a X.env) :: starEach [] X.env) : PE X (.Call (.Name "len" p) [.Call (.Name "set" p2) [a] [] q] [] pos) (tLnS X.K ta) := by
  refine ⟨fun pins s σ H Q I h => ?_⟩
  refine PyProof.Rows.Call_ (ld_blt I hg hm PySem.boot_len ?_)
  refine PyProof.Rows.callWith_builtin1 (PyProof.Rows.args_cons ?_ rfl) rfl rfl
  refine PyProof.Rows.Call_ (ld_blt I hg2 hm2 PyProof.Rows.boot_set ?_)
  refine PyProof.Rows.callWith_type1 (PyProof.Rows.args_cons (thn (ha.run pins s σ H _ I h) fun v s1 ⟨x, H1, I1, r1, q1⟩ => PyProof.Rows.args_nil ?_) na) na rfl
  obtain ⟨b, l, vs, ks, rfl, hq, rfl, hlt, q1⟩ := q1
  cases r1
  have go : ∀ (its : List Value), Vals (ks.map kV) its → (if b = true then s1.heap.IsTuple l its.toArray else s1.heap.IsList l its.toArray) → wpAny (model X.prog X.w) X.A (call (.type "set") [Value.ref l]) (fun u s2 => wpAny (model X.prog X.w) X.A (spliced (backTo pos (starEach [] X.env))) (fun us s3 => wpAny (model X.prog X.w) X.A (call (.builtin "len") (u :: us)) (EP X pins σ Q) X.xe s3) X.xe s2) X.xe s1 := fun its r hit => by
    have hl : ks.length = its.toArray.size := by rw [List.size_toArray, ← r.length, List.length_map]
    refine setCall b (I1.ok.hd hc) hit hl (fun j v k e1 e2 => vals_keys r j v k (by simpa using e1) e2) hlt fun g tk hS hk => ?_
    refine PyProof.Rows.args_nil ?_
    obtain ⟨o, es, ep, t, ho, hex, hd, _, _, _, hf, hn⟩ := hS
    have I2 : Inv X pins σ H1 { s1 with heap := g, toks := tk } := I1.kept fun b o e => hk b o (Heap.lt_size e) e
    have lt := fmK_le ks
    have sb : scanBound = 4096 := rfl
    refine call_len_set ho hex hd hf (by rw [hn]; omega) ⟨.int (fmK ks).length, H1, I2.tok _, ⟨_, by rw [hn]⟩, q1⟩
  cases b with
  | false =>
    obtain ⟨its, r, pl, hz⟩ := I1.list hq
    exact go its r pl.isList
  | true =>
    obtain ⟨its, r, pl, hz⟩ := I1.tuple hq
    exact go its r pl
def lnSD : D → Option D
  | .list xs => match kysD xs with
    | some ks => if ks.length < 4000 then some (.int (fmK ks).length) else none
    | none => none
  | .tuple xs => match kysD xs with
    | some ks => if ks.length < 4000 then some (.int (fmK ks).length) else none
    | none => none
  | _ => none
def lenSetG : List D → Option D
  | [d] => lnSD d
  | _ => none
theorem kys_vs {Hf : Hp} : ∀ {vs : List V} {xs : List D} {ks : List Key}, Dds Hf vs xs → kysD xs = some ks → vs = ks.map kV
  | _, _, ks, .nil, e => by
    have : [] = ks := Option.some.inj e
    subst this; rfl
  | _, _, ks, .cons (d := d) (ds := ds) h t, e => by
    unfold kysD at e
    split at e
    · rename_i k ks' e1 e2
      cases e
      have ih := kys_vs t e2
      subst ih
      cases d with
      | int i => cases h; cases e1; rfl
      | str x => cases h; cases e1; rfl
      | _ => cases e1
    · cases e
theorem de_lenSet {p p2 q pos : Pos} (hm : X.mg "len" = none) (hm2 : X.mg "set" = none) (ha : DE X W a f) (hc : X.calm = true := by rfl) (hg : Gl X "len" := by rfl) (hg2 : Gl X "set" := by rfl)
    (na : starEach [a] X.env = (false, eval a X.env) :: starEach [] X.env := by rfl) : DE X W (.Call (.Name "len" p) [.Call (.Name "set" p2) [a] [] q] [] pos) (eCd lenSetG (aCons f aNil)) := by
  obtain ⟨t, pr, k⟩ := ha
  refine ⟨_, pe_lnS hc hg hm hg2 hm2 pr na, fun B ca ρ cs Hf σ H Q r h => ?_⟩
  refine k B ca ρ cs Hf σ H _ r (h.bind.bind.mono fun ca1 Hf1 H1 cs1 s n1 r1 h1 v hv => ?_)
  have h2 : Gs X W B ca1 Hf1 ρ σ (bnd (vwsM [s]) (fun ds => bnd (ofO (lenSetG ds)) fun d => ret (.d d)) cs1) (fun ca' Hf' H' _ s => ∀ v, SvOk ca' Hf' s v → Q v H') := (h1.ret_ r1)
  obtain ⟨ds, e1, h3⟩ := vwsM_ h2
  obtain ⟨d, e2, h4⟩ := ofOb_ h3
  have lv := vws_ok r1 (SvsOk.cons hv .nil) e1
  match ds, e2, lv with
  | [x], e2, lv =>
    have fin := h4.ret_ r1
    have sb : scanBound = 4096 := rfl
    cases x with
    | list xs =>
      obtain ⟨l, vs, rfl, q1, q2⟩ := lv.1.lst
      have e2' : (match kysD xs with
        | some ks => if ks.length < 4000 then some (PyData.int (fmK ks).length) else none
        | none => none) = some d := e2
      cases ek : kysD xs with
      | none => rw [ek] at e2'; cases e2'
      | some ks =>
        rw [ek] at e2'
        simp only at e2'
        split at e2'
        · cases e2'
          exact ⟨false, l, vs, ks, rfl, .inl q1, kys_vs q2 ek, by omega, fin _ (.int _)⟩
        · cases e2'
    | tuple xs =>
      obtain ⟨l, vs, rfl, q1, q2⟩ := lv.1.tup
      have e2' : (match kysD xs with
        | some ks => if ks.length < 4000 then some (PyData.int (fmK ks).length) else none
        | none => none) = some d := e2
      cases ek : kysD xs with
      | none => rw [ek] at e2'; cases e2'
      | some ks =>
        rw [ek] at e2'
        simp only at e2'
        split at e2'
        · cases e2'
          exact ⟨true, l, vs, ks, rfl, .inl q1, kys_vs q2 ek, by omega, fin _ (.int _)⟩
        · cases e2'
    | _ => cases e2
  | [], e2, lv => cases e2
  | _ :: _ :: _, e2, lv => cases e2
end
/-! walks over texts -/
def chD (c : Nat) : D := .str ⟨#[c]⟩
def iStrM (f : List S → M S) (ρ : List S) : M (List D) := bnd (f ρ) fun s => match s with
  | .d (.str x) => ret (x.cps.toList.map chD)
  | _ => stuck
section
variable {X : Cx} {W : WX} {a tg : Expr} {fa : List S → M S}
theorem di_str (ha : DE X W a fa) : DI X W tg a (iStrM fa) := by
  obtain ⟨t, p, k⟩ := ha
  refine ⟨_, pi_str p, fun B ca ρ cs Hf σ H R r h => ?_⟩
  refine k B ca ρ cs Hf σ H _ r (h.bind.mono fun ca1 Hf1 H1 cs1 s n1 r1 h1 v hv => ?_)
  cases s with
  | d x =>
    cases x with
    | str x =>
      have hv' : Dd Hf1 v (.str x) := hv
      cases hv'
      refine ⟨x, rfl, ?_⟩
      refine (h1.ret_ r1) _ fun B2 ca2 ρ2 cs2 Hf2 σ2 H2 i n2 r2 hi => ⟨fun e => ?_, fun hi' => ?_⟩
      · subst e
        simp [Its]
      · rw [List.length_map, Array.length_toList] at hi'
        refine ⟨hi', fun y H3 q => ?_⟩
        obtain ⟨rfl, c, e1, rfl⟩ := q
        refine ⟨Hf2, Nx.refl, r2, chD c, ?_, .str _⟩
        rw [List.getElem?_map, Array.getElem?_toList, e1]; rfl
    | _ => exact h1.elim
  | _ => exact h1.elim
end
/-! walks over lists, tuples and texts alike -/
section
variable {X : Cx} {tg : Expr}
def iAny (K : PySem.W.Frag) (te : TE) : TI := fun σ H R => te σ H fun v H1 => (∃ a, v = V.ref a ∧ (∃ xs, SqL K H1 a xs) ∧ R (Itl K a) H1) ∨ (∃ a, v = V.ref a ∧ (∃ xs, SqT K H1 a xs) ∧ R (Itt K a) H1) ∨ ∃ x, v = V.str x ∧ R (Its x) H1
theorem pi_any {e : Expr} {te : TE} (he : PE X e te) : PI X tg e (iAny X.K te) := by
  refine ⟨fun pins s σ H R I h => ?_⟩
  refine thn (he.run pins s σ H _ I h) fun v s1 ⟨y, H1, J1, r1, q⟩ => ?_
  rcases q with ⟨a, rfl, ⟨xs, hq⟩, q⟩ | ⟨a, rfl, ⟨xs, hq⟩, q⟩ | ⟨x, rfl, q⟩
  · cases r1
    obtain ⟨its, rv, p, hz⟩ := J1.list hq
    exact wpAny_pyIter_list p.isList (pi_one (tk := s1.toks) J1 _ (turn_list a _) ⟨_, Heap.get?_push_size _ rfl, rfl, rfl⟩ q)
  · cases r1
    obtain ⟨its, rv, p, hz⟩ := J1.tuple hq
    exact wpAny_pyIter_tuple (show s1.heap.IsTuple a its.toArray from p) (pi_one (tk := s1.toks) J1 _ (turn_tuple a _) ⟨_, Heap.get?_push_size _ rfl, rfl, rfl⟩ q)
  · obtain ⟨t, rfl⟩ := r1
    cases ha : x.cps.all (· < 128)
    · exact wpAny_pyIter_wide ha (pi_one (tk := s1.toks) J1 _ (turn_str _ x t "str_iterator" (.inr rfl)) ⟨_, Heap.get?_push_size _ rfl, rfl, rfl⟩ q)
    · exact wpAny_pyIter_ascii ha (pi_one (tk := s1.toks) J1 _ (turn_str _ x t "str_ascii_iterator" (.inl rfl)) ⟨_, Heap.get?_push_size _ rfl, rfl, rfl⟩ q)
def itD : D → Option (List D)
  | .list xs => some xs
  | .tuple xs => some xs
  | .str x => some (x.cps.toList.map chD)
  | _ => none
def iAnyM (f : List S → M S) (ρ : List S) : M (List D) := bnd (f ρ) fun s => match s with
  | .d x => ofO (itD x)
  | _ => stuck
variable {W : WX} {a : Expr} {fa : List S → M S}
theorem di_any (ha : DE X W a fa) : DI X W tg a (iAnyM fa) := by
  obtain ⟨t, p, k⟩ := ha
  refine ⟨_, pi_any p, fun B ca ρ cs Hf σ H R r h => ?_⟩
  refine k B ca ρ cs Hf σ H _ r (h.bind.mono fun ca1 Hf1 H1 cs1 s n1 r1 h1 v hv => ?_)
  cases s with
  | d x =>
    cases x with
    | list xs =>
      have hv' : Dd Hf1 v (.list xs) := hv
      cases hv' with
      | lst g1 g2 =>
        rename_i l vs
        refine .inl ⟨l, rfl, ⟨vs, .inl (rd_ex r1.ext g1)⟩, ?_⟩
        have h2 : Gs X W B ca1 Hf1 ρ σ (ret xs cs1) _ := h1
        refine (h2.ret_ r1) _ fun B2 ca2 ρ2 cs2 Hf2 σ2 H2 i n2 r2 hi => ?_
        have g3 := rd_ex (fun a o h => r2.ext a o (n2.ex a o h)) g1
        refine ⟨fun e => ⟨vs, .inl g3, by rw [dps_len g2]; omega⟩, fun hi' => ?_⟩
        have hx : xs[i]? = some xs[i] := by simp [hi']
        obtain ⟨w, e1, e2⟩ := dps_get g2 hx
        refine ⟨⟨vs, w, .inl g3, e1⟩, fun x H3 y => ?_⟩
        obtain ⟨rfl, y⟩ := y
        have y1 := y vs (.inl g3)
        rw [e1] at y1
        cases y1
        exact ⟨Hf2, Nx.refl, r2, xs[i], hx, dp_ex n2.ex e2⟩
    | tuple xs =>
      have hv' : Dd Hf1 v (.tuple xs) := hv
      cases hv' with
      | tup g1 g2 =>
        rename_i l vs
        refine .inr (.inl ⟨l, rfl, ⟨vs, .inl (rd_ex r1.ext g1)⟩, ?_⟩)
        have h2 : Gs X W B ca1 Hf1 ρ σ (ret xs cs1) _ := h1
        refine (h2.ret_ r1) _ fun B2 ca2 ρ2 cs2 Hf2 σ2 H2 i n2 r2 hi => ?_
        have g3 := rd_ex (fun a o h => r2.ext a o (n2.ex a o h)) g1
        refine ⟨fun e => ⟨vs, .inl g3, by rw [dps_len g2]; omega⟩, fun hi' => ?_⟩
        have hx : xs[i]? = some xs[i] := by simp [hi']
        obtain ⟨w, e1, e2⟩ := dps_get g2 hx
        refine ⟨⟨vs, w, .inl g3, e1⟩, fun x H3 y => ?_⟩
        obtain ⟨rfl, y⟩ := y
        have y1 := y vs (.inl g3)
        rw [e1] at y1
        cases y1
        exact ⟨Hf2, Nx.refl, r2, xs[i], hx, dp_ex n2.ex e2⟩
    | str x =>
      have hv' : Dd Hf1 v (.str x) := hv
      cases hv'
      refine .inr (.inr ⟨x, rfl, ?_⟩)
      have h2 : Gs X W B ca1 Hf1 ρ σ (ret (x.cps.toList.map chD) cs1) _ := h1
      refine (h2.ret_ r1) _ fun B2 ca2 ρ2 cs2 Hf2 σ2 H2 i n2 r2 hi => ⟨fun e => ?_, fun hi' => ?_⟩
      · subst e
        simp [Its]
      · rw [List.length_map, Array.length_toList] at hi'
        refine ⟨hi', fun y H3 q => ?_⟩
        obtain ⟨rfl, c, e1, rfl⟩ := q
        refine ⟨Hf2, Nx.refl, r2, chD c, ?_, .str _⟩
        rw [List.getElem?_map, Array.getElem?_toList, e1]; rfl
    | _ => exact h1.elim
  | _ => exact h1.elim
end
end Dn

set_option Elab.async false
set_option linter.all false
set_option maxRecDepth 100000
set_option maxHeartbeats 1000000
/-! Dn12: try .. except C as e. -/
namespace Dn
open PySem L2
/-- the slot of the exception's name is forgotten; an error of the suite is none -/
def clr (i : Nat) : Out → Out
  | .nx ρ cs => .nx (ρ.set i .no) cs
  | .bk ρ cs => .bk (ρ.set i .no) cs
  | .ct ρ cs => .ct (ρ.set i .no) cs
  | .rt r cs => .rt r cs
  | _ => .no
open Classical in
noncomputable def hAs (i : Nat) (h : Str → Addr → G) (c : Str) : G := fun ρ cs =>
  if ∀ a, clr i (h c a (ρ.set i (.fn a)) cs) = clr i (h c 0 (ρ.set i (.fn 0)) cs) then clr i (h c 0 (ρ.set i (.fn 0)) cs) else .no
noncomputable def sTry (i : Nat) (known sub : Str → Bool) (h : Str → Addr → G) (g : G) : G := fun ρ cs => match g ρ cs with
  | .er c ρ' cs' => if known c = true then (if sub c = true then hAs i h c ρ' cs' else .er c ρ' cs') else .no
  | o => o
section
variable {X : Cx} {W : WX}
theorem GO.wf {W W' : WX} {B : Hp} {ca : List Addr} {Hf : Hp} {En : Ends} {o : Out} (h : GO X W B ca Hf En o) (n : ∀ c ρ cs, o ≠ .er c ρ cs) : GO X W' B ca Hf En o := by
  cases o with
  | er c ρ cs => exact absurd rfl (n c ρ cs)
  | _ => exact h
theorem clr_ok {i : Nat} {B : Hp} {ca : List Addr} {Hf : Hp} {D : Ends} {o : Out} (h : GO X W B ca Hf D (clr i o)) : GO X Wf B ca Hf { nx := fun σ H => D.nx (σ.set i none) H, rt := D.rt, bk := fun σ H => D.bk (σ.set i none) H, ct := fun σ H => D.ct (σ.set i none) H } o := by
  cases o with
  | nx ρ cs => exact fun ca' Hf' σ' H' n r => h ca' Hf' _ H' n (r.lose i none)
  | bk ρ cs => exact fun ca' Hf' σ' H' n r => h ca' Hf' _ H' n (r.lose i none)
  | ct ρ cs => exact fun ca' Hf' σ' H' n r => h ca' Hf' _ H' n (r.lose i none)
  | rt v cs => exact h
  | er c ρ cs => exact h.elim
  | no => exact h.elim
def tbOf (X : Cx) (g : G) (W : WX) : TS := fun D σ H => ∃ (B : Hp) (ca : List Addr) (ρ : List S) (cs : Store) (Hf : Hp), Rel B ca ρ cs Hf σ H ∧ GO X W B ca Hf D (g ρ cs)
def tsOf (X : Cx) (known : Str → Bool) (h : Str → Addr → G) (a : Addr) (cls : Value) (d : Option Addr) : TS := fun D σ H => ∃ (B : Hp) (ca : List Addr) (ρ : List S) (cs : Store) (Hf : Hp) (c : Str), Rel B ca ρ cs Hf σ H ∧ X.mg c = some cls ∧ known c = true ∧ d = none ∧ GO X Wf B ca Hf D (h c a ρ cs)
theorem dst_try (i : Nat) {x n : Str} {C : Value} {known sub : Str → Bool} {body suite : List Stmt} {b₀ : Stmt} {np pos pos' : Pos} {g : G} {h : Str → Addr → G} (hN : X.N.Nodup) (tk : Takes X W) (hc : Names X x C)
    (hsub : ∀ c cls, known c = true → X.mg c = some cls → PySem.W.exmOne X.K cls C = some (sub c))
    (hb : ∀ (W : WX) (pn : List (Addr × Obj)) (xe : Value → Shared → Prop), Takes (X.tr pn xe) W → PassesOwn (model X.prog X.w) X.A X.env xe → DSs (X.tr pn xe) W body g)
    (hsu : ∀ (a : Addr) (oe : Obj) (cls : Value) (pn : List (Addr × Obj)) (c : Str), known c = true → X.mg c = some cls → Zc cls none oe → (∃ vs, oe.data = .fields vs) → DSs (X.suite a ((a, oe) :: pn)) Wf (b₀ :: suite) (h c a))
    (hi : X.N[i]? = some n := by rfl) (hln : X.env.kindOf n = some .local := by rfl) (hs : X.stack = X.env :: X.outer := by rfl) (hf : X.env.frame = some X.env.locals := by rfl) :
    DSt X W (.Try body [.ExceptHandler (some (.Name x np)) (some n) (b₀ :: suite) pos'] [] [] pos) (sTry i known sub h g) := by
  refine ⟨_, L2.ps_try_as (tb := tbOf X g) (ts := tsOf X known h) (Wout := W) hs hf hN hi hln hc tk (fun W' pn xe tk' po' => ?_) (fun a oe cls d pn hz hd => ?_), fun B ca ρ cs Hf σ H En r hg => ?_⟩
  · obtain ⟨t, p, k⟩ := hb W' pn xe tk' po'
    exact ⟨fun pins s σ H D I ⟨B, ca, ρ, cs, Hf, r, hh⟩ => p.run pins s σ H D I (k B ca ρ cs Hf σ H D r hh)⟩
  · refine ⟨fun pins s σ H D I ⟨B, ca, ρ, cs, Hf, c, r, e, kn, ed, hh⟩ => ?_⟩
    subst ed
    obtain ⟨t, p, k⟩ := hsu a oe cls pn c kn e hz hd
    exact p.run pins s σ H D I (k B ca ρ cs Hf σ H D r hh)
  · refine ⟨B, ca, ρ, cs, Hf, r, ?_⟩
    unfold sTry at hg
    cases eg : g ρ cs with
    | er c ρ' cs' =>
      rw [eg] at hg
      simp only at hg
      intro ca' Hf' σ' H' cls nx r' mg
      by_cases kn : known c = true
      · rw [if_pos kn] at hg
        refine ⟨sub c, hsub c cls kn mg, fun hb a ha => ?_, fun hb => ?_⟩
        · rw [if_pos hb] at hg
          unfold hAs at hg
          split at hg
          · rename_i al
            refine ⟨B, ca', ρ'.set i (.fn a), cs', Hf', c, r'.set (s := .fn a) i rfl, mg, kn, rfl, ?_⟩
            have q := GO.fwd hg nx
            rw [← al a] at q
            exact clr_ok q
          · exact hg.elim
        · rw [if_neg (by rw [hb]; simp)] at hg
          exact hg ca' Hf' σ' H' cls nx r' mg
      · rw [if_neg kn] at hg; exact hg.elim
    | nx ρ' cs' => rw [eg] at hg; exact hg
    | rt v cs' => rw [eg] at hg; exact hg
    | bk ρ' cs' => rw [eg] at hg; exact hg
    | ct ρ' cs' => rw [eg] at hg; exact hg
    | no => rw [eg] at hg; exact hg.elim
/-- isinstance(e, C), e the exception in hand -/
def eIsE (i : Nat) (a : Addr) (b : Bool) (ρ : List S) : M S := match ρ[i]? with
  | some (.fn a') => if a' = a then ret (.d (.bool b)) else stuck
  | _ => stuck
theorem isE_run {i : Nat} {a : Addr} {b : Bool} {B : Hp} {ca : List Addr} {Hf : Hp} {ρ : List S} {σ : L2.St} {cs : Store} {H : Hp} {P : List Addr → Hp → Hp → Store → S → Prop} (r : Rel B ca ρ cs Hf σ H) (h : Gs X W B ca Hf ρ σ (eIsE i a b ρ cs) P) : σ[i]? = some (some (.ref a)) ∧ P ca Hf H cs (.d (.bool b)) := by
  unfold eIsE at h
  cases e : ρ[i]? with
  | none => rw [e] at h; exact h.elim
  | some s =>
    rw [e] at h
    cases s with
    | fn a' =>
      have h' : Gs X W B ca Hf ρ σ ((if a' = a then ret (.d (.bool b)) else stuck) cs) P := h
      split at h'
      · rename_i q
        subst q
        obtain ⟨v, h1, h2⟩ := r.get e (by simp)
        have h2' : v = .ref a' := h2
        subst h2'
        exact ⟨h1, h'.ret_ r⟩
      · exact h'.elim
    | _ => exact h.elim
end
section
variable {X : Cx} {a D : Addr} {oe : Obj} {pn : List (Addr × Obj)}
theorem de_isE (i : Nat) {en x : Str} {p p1 p2 pos : Pos} {C : Addr} {b : Bool} (hE : ExcC X.K D) (hz : Zc (.ref D) none oe) (hf : ∃ vs, oe.data = .fields vs) (hk : PySem.W.kitOne X.K (.ref D) (.ref C) = some b) (hm : X.mg "isinstance" = none) (hC : X.mg x = some (.ref C)) (hi : X.N[i]? = some en := by rfl)
    (hv : Vis X.env.scope en := by first | exact Or.inl rfl | exact Or.inr (Or.inl rfl) | exact Or.inr (Or.inr rfl)) (hg : Gl X "isinstance" := by rfl) (hgC : Gl X x := by rfl) (hd : (en == ("__debug__" : Str)) = false := by decide) (hcd : (en == ("__classdict__" : Str)) = false := by decide) (hdC : (x == ("__debug__" : Str)) = false := by decide)
    (h1 : starEach [.Name en p1, .Name x p2] X.env = (false, eval (.Name en p1) X.env) :: starEach [.Name x p2] X.env := by rfl) (h2 : starEach [.Name x p2] X.env = (false, eval (.Name x p2) X.env) :: starEach [] X.env := by rfl) (h3 : (backTo pos (starEach [.Name x p2] X.env)).any (·.1) = false := by rfl) :
    DE (X.suite a ((a, oe) :: pn)) Wf (.Call (.Name "isinstance" p) [.Name en p1, .Name x p2] [] pos) (eIsE i a b) := by
  refine ⟨_, pe_callB (X := X.suite a ((a, oe) :: pn)) (call_isE hE hz hf) hg hm (by decide +kernel) (pa_cons (pe_var hi hv hd hcd) (pa_cons (pe_glob (v := .ref C) hgC hC rfl hdC) pa_nil h2) h1) (by decide) (by decide) h1 h3, fun B ca ρ cs Hf σ H Q r h => ?_⟩
  obtain ⟨e1, q⟩ := isE_run r h
  refine ⟨_, e1, ?_⟩
  exact ⟨.ref C, .ref C, b, rfl, fun u ru => ru, hk, q _ (.bl b)⟩
theorem de_isET (i : Nat) {en x : Str} {p p1 p2 pos : Pos} {T : String} {b : Bool} (hE : ExcC X.K D) (hz : Zc (.ref D) none oe) (hf : ∃ vs, oe.data = .fields vs) (hk : PySem.W.kitOne X.K (.ref D) (.type T) = some b) (hm : X.mg "isinstance" = none) (hC : X.mg x = none) (hbt : bootBuiltins x = some (.type T)) (hi : X.N[i]? = some en := by rfl)
    (hv : Vis X.env.scope en := by first | exact Or.inl rfl | exact Or.inr (Or.inl rfl) | exact Or.inr (Or.inr rfl)) (hg : Gl X "isinstance" := by rfl) (hgC : Gl X x := by rfl) (hd : (en == ("__debug__" : Str)) = false := by decide) (hcd : (en == ("__classdict__" : Str)) = false := by decide) (hn : x ≠ "__name__" := by decide) (hdC : (x == ("__debug__" : Str)) = false := by decide)
    (h1 : starEach [.Name en p1, .Name x p2] X.env = (false, eval (.Name en p1) X.env) :: starEach [.Name x p2] X.env := by rfl) (h2 : starEach [.Name x p2] X.env = (false, eval (.Name x p2) X.env) :: starEach [] X.env := by rfl) (h3 : (backTo pos (starEach [.Name x p2] X.env)).any (·.1) = false := by rfl) :
    DE (X.suite a ((a, oe) :: pn)) Wf (.Call (.Name "isinstance" p) [.Name en p1, .Name x p2] [] pos) (eIsE i a b) := by
  refine ⟨_, pe_callB (X := X.suite a ((a, oe) :: pn)) (call_isE hE hz hf) hg hm (by decide +kernel) (pa_cons (pe_var hi hv hd hcd) (pa_cons (pe_bltn (v := .ty T) hgC hC hbt rfl hn hdC) pa_nil h2) h1) (by decide) (by decide) h1 h3, fun B ca ρ cs Hf σ H Q r h => ?_⟩
  obtain ⟨e1, q⟩ := isE_run r h
  refine ⟨_, e1, ?_⟩
  exact ⟨.ty T, .type T, b, rfl, fun u ru => ru, hk, q _ (.bl b)⟩
end
/-! facts of exception classes, as the head is looked at -/
def excB (K : PySem.W.Frag) (x : Str) : Bool :=
  decide (PySem.W.findIn K (.ref (He.ga K x)) "__getattribute__" = some (some (.builtin "BaseException.__getattribute__"))) && (decide (PySem.W.findIn K (.ref (He.ga K x)) "__getattr__" = some none) &&
    (decide (PySem.W.subIn K (.ref (He.ga K x)) (.type "BaseException") = some true) && (PySem.W.hasDictIn K (He.ga K x) && (decide (PySem.W.findIn K (.ref (He.ga K x)) "__class__" = some (some (.builtin "object.__class__"))) &&
      (decide (PySem.W.specialIn K (.builtin "object.__class__") "__get__" = some (some (.builtin "getset_descriptor.__get__"))) && (decide (PySem.W.takesIn K (.builtin "object.__class__") = some true) && decide (PySem.W.mroIn K (He.ga K x) (.type "object") = some true)))))))
theorem excB_ok {K : PySem.W.Frag} {x : Str} (h : excB K x = true) : ExcC K (He.ga K x) := by
  unfold excB at h
  simp only [Bool.and_eq_true, decide_eq_true_eq] at h
  obtain ⟨h1, h2, h3, h4, h5, h6, h7, h8⟩ := h
  exact ⟨h1, h2, h3, h4, h5, h6, h7, h8⟩
def kitB (K : PySem.W.Frag) (x y : Str) (b : Bool) : Bool := decide (PySem.W.kitOne K (.ref (He.ga K x)) (.ref (He.ga K y)) = some b)
def kitTB (K : PySem.W.Frag) (x : Str) (T : String) (b : Bool) : Bool := decide (PySem.W.kitOne K (.ref (He.ga K x)) (.type T) = some b)
theorem kitB_ok {K : PySem.W.Frag} {x y : Str} {b : Bool} (h : kitB K x y b = true) : PySem.W.kitOne K (.ref (He.ga K x)) (.ref (He.ga K y)) = some b := of_decide_eq_true h
theorem kitTB_ok {K : PySem.W.Frag} {x : Str} {T : String} {b : Bool} (h : kitTB K x T b = true) : PySem.W.kitOne K (.ref (He.ga K x)) (.type T) = some b := of_decide_eq_true h
def strG : List D → Option D
  | [.int i] => if i.natAbs.log2 < 1920 then some (.str (toString i)) else none
  | [.str x] => some (.str x)
  | _ => none
theorem str_ok {X : Cx} : CallR X (.type "str") (rCd strG) := by
  intro pins s σ H xs us Q I r h
  obtain ⟨Hf, ds, d, e, ex, hl, q⟩ := h
  unfold strG at e
  split at e
  · split at e
    · rename_i hz
      cases e
      obtain ⟨v, rfl, h1⟩ := lvs_one hl
      have := h1.int_; subst this
      exact call_str_int pins s σ H _ us Q I r ⟨_, rfl, hz, q _ _ _ (Gw.refl ex) (.str _)⟩
    · cases e
  · cases e
    obtain ⟨v, rfl, h1⟩ := lvs_one hl
    have := h1.str_; subst this
    exact SkE.call_str_str pins s σ H _ us Q I r ⟨_, rfl, q _ _ _ (Gw.refl ex) (.str _)⟩
  · cases e
theorem bt_ValueError : bootBuiltins "ValueError" = some (.type "ValueError") := by decide +kernel
end Dn

set_option Elab.async false
set_option linter.all false
set_option maxRecDepth 100000
set_option maxHeartbeats 4000000
/-! Dn13: lists and tuples times an int. -/
namespace Dn
open PySem L2
open AutoSeq1 (wpAny_loadPart')
theorem tupSame (l : Addr) (items : Array Value) (n : Nat) (dd : Option Addr) (sl : Array (Option Value)) (x : Int) (u : Tok) (c0 : (decide (x < -(2 ^ 63)) || decide (x ≥ 2 ^ 63)) = false) (c1 : (items.isEmpty || x == 1) = true) :
    Meets (Builtin.«tuple.__mul__» ⟨[.ref l, .int x u], []⟩) (fun _ R s => s.heap.get? l = some { cls := .type "tuple", dict := dd, data := .seq items n, slots := sl } ∧ R (.ok (.ret (Value.ref l))) s) :=
  .of_wp fun prog w A R s h => by
    obtain ⟨hp, g, d, tk, os⟩ := s
    obtain ⟨hl, h⟩ := h
    have f1 := AutoSeq1.idx_int
    wp_walk using wpAny_loadPart' hl
    repeat (first
      | (refine wpAny_ite_false (decide_eq_false (by rw [c0]; exact Bool.false_ne_true)) ?_; wp_walk using wpAny_loadPart' hl)
      | (refine wpAny_ite_true (decide_eq_true c1) ?_; wp_walk using wpAny_loadPart' hl))
    exact ⟨_, rfl, h⟩
theorem tupNone (l : Addr) (items : Array Value) (n : Nat) (dd : Option Addr) (sl : Array (Option Value)) (x : Int) (u : Tok) (c0 : (decide (x < -(2 ^ 63)) || decide (x ≥ 2 ^ 63)) = false) (c1 : (items.isEmpty || x == 1) = false) (c2 : (decide (x ≤ 0) || items.isEmpty) = true) :
    Meets (Builtin.«tuple.__mul__» ⟨[.ref l, .int x u], []⟩) (fun _ R s => s.heap.get? l = some { cls := .type "tuple", dict := dd, data := .seq items n, slots := sl } ∧
      R (.ok (.ret (Value.ref s.heap.objs.size))) { s with heap := s.heap.push { cls := Value.type "tuple", data := Data.seq #[] }, toks := s.toks }) :=
  .of_wp fun prog w A R s h => by
    obtain ⟨hp, g, d, tk, os⟩ := s
    obtain ⟨hl, h⟩ := h
    have f1 := AutoSeq1.idx_int
    wp_walk using wpAny_loadPart' hl
    repeat (first
      | (refine wpAny_ite_false (decide_eq_false (by rw [c0]; exact Bool.false_ne_true)) ?_; wp_walk using wpAny_loadPart' hl)
      | (refine wpAny_ite_false (decide_eq_false (by rw [c1]; exact Bool.false_ne_true)) ?_; wp_walk using wpAny_loadPart' hl)
      | (refine wpAny_ite_true (decide_eq_true c2) ?_; wp_walk using wpAny_loadPart' hl))
    exact ⟨_, rfl, h⟩
def mulE (a b : D) : Option D := match a, b with
  | .list xs, .int k => if -1000000000 ≤ k ∧ k ≤ 1000000000 ∧ xs.length * k.toNat ≤ sizeLine then some (.list (List.replicate k.toNat xs).flatten) else none
  | .tuple xs, .int k => if -1000000000 ≤ k ∧ k ≤ 1000000000 ∧ xs.length * k.toNat ≤ 1000000 then some (.tuple (List.replicate k.toNat xs).flatten) else none
  | a, b => mulD a b
theorem dps_rep {H : Hp} {vs : List V} {ds : List D} (h : Dds H vs ds) : ∀ k : Nat, Dds H (List.replicate k vs).flatten (List.replicate k ds).flatten
  | 0 => .nil
  | k + 1 => by
    rw [List.replicate_succ, List.replicate_succ, List.flatten_cons, List.flatten_cons]
    exact dps_app h (dps_rep h k)
theorem rep_len {α : Type} (k : Nat) (l : List α) : (List.replicate k l).flatten.length = l.length * k := by
  induction k with
  | zero => simp
  | succ k ih => rw [List.replicate_succ, List.flatten_cons, List.length_append, ih, Nat.mul_succ]; omega
section
variable {X : Cx}
theorem mulE_ok : OpR X (binaryOp .Mult) (rD mulE) := by
  intro pins s σ H x y v u Q I rx ry h
  obtain ⟨Hf, da, db, d, e, ex, ha, hb, q⟩ := h
  unfold mulE at e
  split at e
  · rename_i ds k
    split at e
    · rename_i hz
      obtain ⟨k1, k2, k3⟩ := hz
      cases e
      obtain ⟨l, vs, rfl, h1, h2⟩ := ha.lst
      have := hb.int_; subst this
      have l1 := dps_len h2
      cases rx
      obtain ⟨t, rfl⟩ := ry
      obtain ⟨z, its, n, r, hl, e⟩ := Inv.rdl I h1
      have hlen : its.toArray.size * k.toNat ≤ sizeLine := by rw [List.size_toArray, ← hl, l1]; exact k3
      have c1 : ¬ its.toArray.size * k.toNat > (2 ^ 63 - 1) / 8 := by
        have : (sizeLine : Nat) ≤ (2 ^ 63 - 1) / 8 := by decide
        omega
      have c2 : ¬ (!Builtin.List.listFitsIndex k) = true := by
        rw [fitsIndex_both (by omega) (by omega)]
        exact Bool.false_ne_true
      have c3 : ¬ Builtin.List.listTooLong (its.toArray.size * k.toNat) = true := by
        rw [notLongL hlen]
        exact Bool.false_ne_true
      have c4 : List.foldl (fun x1 x2 => x1 ++ x2) #[] (List.replicate (if its.toArray.isEmpty = true then 0 else k.toNat) its.toArray) = (List.replicate k.toNat its).flatten.toArray := by
        rw [size_rep]
        cases its with
        | nil => simp
        | cons a r' => rw [if_neg (by simp)]
      refine wpAny_binaryOp_repeat_ref (T := "list") (U := "int") (by decide) ⟨_, e, rfl⟩ (fun s' => typeIs_int s' k t) noFill_list_mul F.fills_int_mul F.slot_int_rmul repeat_list F.slot_int_index.lookup
        (call_meets F.slot_int_rmul (typeIs_int s k t) F.entry_int_rmul (F.args_int_rmul_2 _ _) (int___rmul___int_list k t l its.toArray n)
          ⟨e, rfl, ⟨_, e, rfl⟩, call_meets F.slot_list_mul ⟨_, e, rfl⟩ F.entry_list_mul (F.args_list_mul_2 _ _) (AutoListH.list___mul___list_int_3 l its.toArray n k t c2 c1 c3) ⟨e, ?_⟩⟩)
      rw [c4]
      have g := Gw.new (o := .lst (List.replicate k.toNat vs).flatten) ex I.fresh
      exact ⟨.ref _, _, I.lnew (t' := s.toks) (r.rep k.toNat) (by rw [rep_len, l1]; exact k3), rfl, q _ _ _ g (.lst (.inl upd_same) (dps_ex g.ex (dps_rep h2 _)))⟩
    · cases e
  · rename_i ds k
    split at e
    · rename_i hz
      obtain ⟨k1, k2, k3⟩ := hz
      cases e
      obtain ⟨l, vs, rfl, h1, h2⟩ := ha.tup
      have := hb.int_; subst this
      have l1 := dps_len h2
      cases rx
      obtain ⟨t, rfl⟩ := ry
      obtain ⟨its, r, ⟨⟨cls, dd, data, sl⟩, ho, hc, n, hd⟩, hs⟩ := I.tuple (.inl h1)
      simp only at hc hd
      subst hc hd
      have hle : its.length = vs.length := r.length.symm
      have c0 : (decide (k < -(2 ^ 63)) || decide (k ≥ 2 ^ 63)) = false := by
        rw [decide_eq_false (by omega), decide_eq_false (by omega)] <;> rfl
      have road : ∀ {Q' : Value → Shared → Prop}, wpAny (model X.prog X.w) X.A (call (.builtin "tuple.__mul__") [.ref l, .int k t]) Q' X.xe s → wpAny (model X.prog X.w) X.A (binaryOp .Mult (.ref l) (.int k t)) Q' X.xe s := fun {Q'} hh =>
        wpAny_binaryOp_repeat_ref (T := "tuple") (U := "int") (by decide) ⟨_, ho, rfl⟩ (fun s' => typeIs_int s' k t) noFill_tuple_mul F.fills_int_mul F.slot_int_rmul repeat_tuple F.slot_int_index.lookup
          (call_meets F.slot_int_rmul (typeIs_int s k t) F.entry_int_rmul (F.args_int_rmul_2 _ _) (int_rmul_tuple k t l its.toArray n dd sl) ⟨ho, rfl, ⟨_, ho, rfl⟩, hh⟩)
      refine road ?_
      by_cases hsame : (its.toArray.isEmpty || k == 1) = true
      · refine call_meets F.slot_tuple_mul ⟨_, ho, rfl⟩ F.entry_tuple_mul (F.args_tuple_mul_2 _ _) (tupSame l its.toArray n dd sl k t c0 hsame) ⟨ho, ?_⟩
        refine ⟨.ref l, H, I, rfl, q _ _ _ (Gw.refl ex) ?_⟩
        have same : (List.replicate k.toNat ds).flatten = ds := by
          rcases Bool.or_eq_true_iff.mp hsame with z | z
          · have e0 : its = [] := by
              cases its with
              | nil => rfl
              | cons a b => simp at z
            subst e0
            have : ds = [] := List.length_eq_zero_iff.mp (by rw [← l1, ← hle]; rfl)
            subst this
            simp
          · have : k = 1 := by simpa using z
            subst this
            simp
        rw [same]
        exact ha.flat fun _ z => nomatch z
      · have c1 : (its.toArray.isEmpty || k == 1) = false := by simpa using hsame
        by_cases hnone : (decide (k ≤ 0) || its.toArray.isEmpty) = true
        · refine call_meets F.slot_tuple_mul ⟨_, ho, rfl⟩ F.entry_tuple_mul (F.args_tuple_mul_2 _ _) (tupNone l its.toArray n dd sl k t c0 c1 hnone) ⟨ho, ?_⟩
          have k0 : k ≤ 0 := by
            rcases Bool.or_eq_true_iff.mp hnone with z | z
            · exact of_decide_eq_true z
            · rw [z] at c1; simp at c1
          have e0 : k.toNat = 0 := by omega
          rw [e0] at q
          have g := Gw.new (o := .tup []) ex (I.hok.fresh (Nat.le_refl _))
          exact ⟨.ref s.heap.objs.size, _, I.laid (t' := s.toks) (o := .tup []) (fun b ob q => Heap.get?_push_of_some _ q) (Nat.le_refl _) ⟨Nat.zero_le _, [], .nil, PyProof.Rows.IsTup.new _ _⟩, rfl, q _ _ _ g (.tup (.inl upd_same) .nil)⟩
        · have c2 : (decide (k ≤ 0) || its.toArray.isEmpty) = false := by simpa using hnone
          have kp : 0 < k := by
            have := (Bool.or_eq_false_iff.mp c2).1
            have := of_decide_eq_false this
            omega
          have km : (k.toNat : Int) = k := by omega
          have hm : ((its.toArray.size : Nat) : Int) * k ≤ 1000000 := by
            have k4 : ((ds.length * k.toNat : Nat) : Int) ≤ 1000000 := Int.ofNat_le.mpr k3
            rw [Int.natCast_mul, km] at k4
            rw [List.size_toArray, hle, l1]
            exact k4
          have flen : (List.replicate k.toNat its).flatten.length ≤ sizeLine := by
            rw [rep_len, hle, l1, sizeLine_eq]
            omega
          have c4 : Builtin.Tuple.tupleTooMany (((its.toArray.size : Nat) : Int) * k) = false := by
            unfold Builtin.Tuple.tupleTooMany
            rw [sizeLine_eq]
            exact decide_eq_false (by omega)
          refine call_meets F.slot_tuple_mul ⟨_, ho, rfl⟩ F.entry_tuple_mul (F.args_tuple_mul_2 _ _) (tuple_mulW l its.toArray n dd sl k t c0 c1 c2 (by omega) c4 (by rw [size_rep, List.size_toArray]; exact flen)) ⟨ho, ?_⟩
          rw [size_rep]
          have g := Gw.new (o := .tup (List.replicate k.toNat vs).flatten) ex (I.hok.fresh (Nat.le_refl _))
          exact ⟨.ref s.heap.objs.size, _, I.laid (t' := s.toks) (o := .tup (List.replicate k.toNat vs).flatten) (fun b ob q => Heap.get?_push_of_some _ q) (Nat.le_refl _) ⟨by rw [rep_len, l1, sizeLine_eq]; omega, _, r.rep k.toNat, PyProof.Rows.IsTup.new _ _⟩, rfl, q _ _ _ g (.tup (.inl upd_same) (dps_ex g.ex (dps_rep h2 _)))⟩
    · cases e
  · exact mul_ok pins s σ H x y v u Q I rx ry ⟨Hf, da, db, d, e, ex, ha, hb, q⟩
end
end Dn

set_option Elab.async false
set_option linter.all false
set_option maxRecDepth 100000
set_option maxHeartbeats 1000000
/-! DnS: what mirrors come to, by simp. -/
namespace Dn
open PySem L2
section
variable {α β : Type} {cs cs' : Store} {ρ : List S} {i j : Nat}
@[simp] theorem ret_ (a : α) : ret a cs = .ok a cs := rfl
@[simp] theorem stuck_ : (stuck : M α) cs = .no := rfl
@[simp] theorem bnd_ (m : M α) (k : α → M β) : bnd m k cs = match m cs with
  | .ok a cs' => k a cs'
  | .er c cs' => .er c cs'
  | .no => .no := rfl
@[simp] theorem ofO_some (a : α) : ofO (some a) cs = .ok a cs := rfl
@[simp] theorem ofO_none : (ofO (none : Option α)) cs = .no := rfl
@[simp] theorem vw_d (x : D) : vw (.d x) cs = some x := rfl
@[simp] theorem vw_cel : vw (.cel j) cs = match cs[j]? with
    | some (.lst xs) => some (.list xs)
    | _ => none := rfl
@[simp] theorem vwM_d (x : D) : vwM (.d x) cs = .ok x cs := rfl
@[simp] theorem vwM_cel : vwM (.cel j) cs = match cs[j]? with
    | some (.lst xs) => .ok (.list xs) cs
    | _ => .no := by
  show (match vw (.cel j) cs with
    | some d => Res.ok d cs
    | none => .no) = _
  rw [vw_cel]
  cases cs[j]? with
  | none => rfl
  | some o => cases o <;> rfl
@[simp] theorem eV_ : eV i ρ = match ρ[i]? with
  | some (.d x) => ret (.d x)
  | some (.cel j) => ret (.cel j)
  | some (.fn a) => ret (.fn a)
  | _ => stuck := rfl
@[simp] theorem eC_ (d : D) : eC d ρ cs = .ok (.d d) cs := rfl
@[simp] theorem eFn_ (a : Addr) : eFn a ρ cs = .ok (.fn a) cs := rfl
@[simp] theorem op2_ (g : D → D → Option β) (fa fb : List S → M S) : op2 g fa fb ρ cs = bnd (fa ρ) (fun a => bnd (fb ρ) fun b => bnd (vwM a) fun x => bnd (vwM b) fun y => ofO (g x y)) cs := rfl
@[simp] theorem op1_ (g : D → Option β) (fa : List S → M S) : op1 g fa ρ cs = bnd (fa ρ) (fun a => bnd (vwM a) fun x => ofO (g x)) cs := rfl
@[simp] theorem eBin_ (g : D → D → Option D) (fa fb : List S → M S) : eBin g fa fb ρ cs = bnd (op2 g fa fb ρ) (fun d => ret (.d d)) cs := rfl
@[simp] theorem eCmp_ (g : D → D → Option Bool) (fa fb : List S → M S) : eCmp g fa fb ρ cs = bnd (op2 g fa fb ρ) (fun b => ret (.d (.bool b))) cs := rfl
@[simp] theorem eIsN_ (fa : List S → M S) : eIsN fa ρ cs = bnd (op1 isnD fa ρ) (fun b => ret (.d (.bool b))) cs := rfl
@[simp] theorem eIsNN_ (fa : List S → M S) : eIsNN fa ρ cs = bnd (op1 isnD fa ρ) (fun b => ret (.d (.bool (!b)))) cs := rfl
@[simp] theorem tT_ (fa : List S → M S) : tT fa ρ cs = op1 truD fa ρ cs := rfl
@[simp] theorem tNotM_ (f : List S → M Bool) : tNotM f ρ cs = bnd (f ρ) (fun b => ret (!b)) cs := rfl
@[simp] theorem tAndM_ (f g : List S → M Bool) : tAndM f g ρ cs = bnd (f ρ) (fun b => if b = true then g ρ else ret false) cs := rfl
@[simp] theorem tOrM_ (f g : List S → M Bool) : tOrM f g ρ cs = bnd (f ρ) (fun b => if b = true then ret true else g ρ) cs := rfl
@[simp] theorem eAndM_ (f g : List S → M S) : eAndM f g ρ cs = bnd (f ρ) (fun a => bnd (vwM a) fun x => bnd (ofO (truD x)) fun b => if b = true then g ρ else ret a) cs := rfl
@[simp] theorem eOrM_ (f g : List S → M S) : eOrM f g ρ cs = bnd (f ρ) (fun a => bnd (vwM a) fun x => bnd (ofO (truD x)) fun b => if b = true then ret a else g ρ) cs := rfl
@[simp] theorem eNotM_ (f : List S → M S) : eNotM f ρ cs = bnd (op1 truD f ρ) (fun b => ret (.d (.bool (!b)))) cs := rfl
@[simp] theorem eNeg_ (f : List S → M S) : eNeg f ρ cs = bnd (op1 negD f ρ) (fun d => ret (.d d)) cs := rfl
@[simp] theorem eIf_ (t : List S → M Bool) (f g : List S → M S) : eIf t f g ρ cs = bnd (t ρ) (fun b => if b = true then f ρ else g ρ) cs := rfl
@[simp] theorem tChn_ (g g' : D → D → Option Bool) (fa fb fc : List S → M S) : tChn g g' fa fb fc ρ cs = bnd (fa ρ) (fun a => bnd (fb ρ) fun b => bnd (vwM a) fun x => bnd (vwM b) fun y => bnd (ofO (g x y)) fun k => if k = true then bnd (fc ρ) fun c => bnd (vwM b) fun y' => bnd (vwM c) fun z => ofO (g' y' z) else ret false) cs := rfl
@[simp] theorem eChn_ (g g' : D → D → Option Bool) (fa fb fc : List S → M S) : eChn g g' fa fb fc ρ cs = bnd (tChn g g' fa fb fc ρ) (fun b => ret (.d (.bool b))) cs := rfl
@[simp] theorem aNil_ : aNil ρ cs = .ok [] cs := rfl
@[simp] theorem aCons_ (f : List S → M S) (g : List S → M (List S)) : aCons f g ρ cs = bnd (f ρ) (fun a => bnd (g ρ) fun as => ret (a :: as)) cs := rfl
@[simp] theorem asD_nil : asD [] = some [] := rfl
@[simp] theorem asD_d (x : D) (r : List S) : asD (.d x :: r) = (asD r).map (x :: ·) := rfl
@[simp] theorem eTup_ (g : List S → M (List S)) : eTup g ρ cs = bnd (g ρ) (fun as => bnd (ofO (asD as)) fun xs => if xs.length ≤ sizeLine then ret (.d (.tuple xs)) else stuck) cs := rfl
@[simp] theorem eLst_ (g : List S → M (List S)) : eLst g ρ cs = bnd (g ρ) (fun as => bnd (ofO (asD as)) fun xs => if xs.length ≤ sizeLine then ret (.own (.lst xs)) else stuck) cs := rfl
@[simp] theorem frz_d (x : D) : frz (.d x) = ret (.d x) := rfl
@[simp] theorem frz_own (xs : List D) : frz (.own (.lst xs)) = ret (.d (.list xs)) := rfl
@[simp] theorem frz_cel : frz (.cel j) = ret (.cel j) := rfl
@[simp] theorem eFrz_ (f : List S → M Rv) : eFrz f ρ cs = bnd (f ρ) frz cs := rfl
@[simp] theorem sRv_d (x : D) : sRv (.d x) = ret (.d x) := rfl
@[simp] theorem sRv_cel : sRv (.cel j) = ret (.cel j) := rfl
@[simp] theorem eRv_ (f : List S → M S) : eRv f ρ cs = bnd (f ρ) sRv cs := rfl
@[simp] theorem oNone_ : oNone ρ cs = .ok none cs := rfl
@[simp] theorem oSome_ (f : List S → M S) : oSome f ρ cs = bnd (f ρ) (fun a => match a with
  | .d (.int i) => ret (some i)
  | _ => stuck) cs := rfl
@[simp] theorem eSl_ (f : List S → M S) (l h : List S → M (Option Int)) : eSl f l h ρ cs = bnd (f ρ) (fun a => bnd (l ρ) fun lo => bnd (h ρ) fun hi => bnd (vwM a) fun x => bnd (ofO (slD x lo hi)) fun d => ret (.d d)) cs := rfl
@[simp] theorem vws_nil : vws [] cs = some [] := rfl
theorem vws_cons (s : S) (r : List S) : vws (s :: r) cs = match vw s cs, vws r cs with
    | some d, some ds => some (d :: ds)
    | _, _ => none := rfl
@[simp] theorem vws_d (x : D) (r : List S) : vws (.d x :: r) cs = (vws r cs).map (x :: ·) := by
  rw [vws_cons, vw_d]
  cases vws r cs <;> rfl
theorem vws_cel {xs : List D} (r : List S) (h : cs[j]? = some (.lst xs)) : vws (.cel j :: r) cs = (vws r cs).map (.list xs :: ·) := by
  rw [vws_cons, vw_cel, h]
  cases vws r cs <;> rfl
@[simp] theorem vwsM_nil : vwsM [] cs = .ok [] cs := rfl
@[simp] theorem vwsM_d (x : D) (r : List S) : vwsM (.d x :: r) cs = bnd (vwsM r) (fun ds => ret (x :: ds)) cs := by
  unfold vwsM bnd ret
  simp only []
  rw [vws_d]
  cases vws r cs <;> rfl
theorem vwsM_cel {xs : List D} (r : List S) (h : cs[j]? = some (.lst xs)) : vwsM (.cel j :: r) cs = bnd (vwsM r) (fun ds => ret (.list xs :: ds)) cs := by
  unfold vwsM bnd ret
  simp only []
  rw [vws_cel r h]
  cases vws r cs <;> rfl
@[simp] theorem eCd_ (g : List D → Option D) (f : List S → M (List S)) : eCd g f ρ cs = bnd (f ρ) (fun ss => bnd (vwsM ss) fun ds => bnd (ofO (g ds)) fun d => ret (.d d)) cs := rfl
@[simp] theorem eIsa_ (T : String) (fa : List S → M S) : eIsa T fa ρ cs = bnd (op1 (fun d => some (isaD T d)) fa ρ) (fun b => ret (.d (.bool b))) cs := rfl
@[simp] theorem celM_lst {xs : List D} (h : cs[j]? = some (.lst xs)) : celM (.cel j) cs = .ok (j, xs) cs := by
  unfold celM; simp only [h]
@[simp] theorem putM_ (o : OC) : putM j o cs = .ok () (cs.set j o) := rfl
@[simp] theorem fin__ (g : List D → List D → Option (D × List D)) (s : S) (ss : List S) : fin_ g s ss cs = bnd (celM s) (fun p => bnd (ofO (asD ss)) fun ds => bnd (ofO (if p.2.length ≤ sizeLine then g p.2 ds else none)) fun q => bnd (putM p.1 (.lst q.2)) fun _ => ret (.d q.1)) cs := rfl
@[simp] theorem eMt_ (g : List D → List D → Option (D × List D)) (fo : List S → M S) (fa : List S → M (List S)) : eMt g fo fa ρ cs = bnd (fo ρ) (fun s => bnd (celM s) fun _ => bnd (fa ρ) fun ss => fin_ g s ss) cs := rfl
@[simp] theorem eMt0_ (g : List D → List D → Option (D × List D)) (fo : List S → M S) : eMt0 g fo ρ cs = bnd (fo ρ) (fun s => fin_ g s []) cs := rfl
@[simp] theorem appG_ (xs : List D) (d : D) : appG xs [d] = if xs.length < sizeLine then some (.none, xs ++ [d]) else none := rfl
@[simp] theorem extG_ (xs ys : List D) : extG xs [.list ys] = if xs.length + ys.length ≤ sizeLine then some (.none, xs ++ ys) else none := rfl
@[simp] theorem popG_ (xs : List D) (d : D) : popG (xs ++ [d]) [] = some (d, xs) := by
  unfold popG
  simp
/-! statements -/
@[simp] theorem stp_ (m : M α) (k : α → Store → Out) : stp m k ρ cs = match m cs with
  | .ok a cs' => k a cs'
  | .er c cs' => .er c ρ cs'
  | .no => .no := rfl
@[simp] theorem gNil_ : gNil ρ cs = .nx ρ cs := rfl
@[simp] theorem gSeq_ (g h : G) : gSeq g h ρ cs = match g ρ cs with
  | .nx ρ' cs' => h ρ' cs'
  | o => o := rfl
@[simp] theorem sSet_ (f : List S → M S) : sSet i f ρ cs = stp (f ρ) (fun s cs => .nx (ρ.set i s) cs) ρ cs := rfl
@[simp] theorem sNew_ (f : List S → M Rv) : sNew i f ρ cs = stp (f ρ) (fun r cs => match r with
  | .own o => .nx (ρ.set i (.cel cs.length)) (cs ++ [o])
  | .d x => .nx (ρ.set i (.d x)) cs
  | .cel j => .nx (ρ.set i (.cel j)) cs) ρ cs := rfl
@[simp] theorem sRet_ (f : List S → M Rv) : sRet f ρ cs = stp (f ρ) (fun r cs => .rt r cs) ρ cs := rfl
@[simp] theorem sRetN_ : sRetN ρ cs = .rt (.d .none) cs := rfl
@[simp] theorem sExp_ (f : List S → M S) : sExp f ρ cs = stp (f ρ) (fun _ cs => .nx ρ cs) ρ cs := rfl
@[simp] theorem sIf_ (t : List S → M Bool) (g h : G) : sIf t g h ρ cs = stp (t ρ) (fun b cs => if b = true then g ρ cs else h ρ cs) ρ cs := rfl
@[simp] theorem sErr_ (c : Str) : sErr c ρ cs = .er c ρ cs := rfl
@[simp] theorem gPass_ : gPass ρ cs = .nx ρ cs := rfl
@[simp] theorem gBrk_ : gBrk ρ cs = .bk ρ cs := rfl
@[simp] theorem gCon_ : gCon ρ cs = .ct ρ cs := rfl
@[simp] theorem gFor_nil (tg : D → List S → Option (List S)) (body : G) : gFor tg body [] ρ cs = .nx ρ cs := rfl
theorem gFor_cons (tg : D → List S → Option (List S)) (body : G) (x : D) (xs : List D) : gFor tg body (x :: xs) ρ cs = match tg x ρ with
    | none => .no
    | some ρ1 => match body ρ1 cs with
      | .nx ρ' cs' => gFor tg body xs ρ' cs'
      | .ct ρ' cs' => gFor tg body xs ρ' cs'
      | .bk ρ' cs' => .nx ρ' cs'
      | .rt r cs' => .rt r cs'
      | .er c ρ' cs' => .er c ρ' cs'
      | .no => .no := rfl
@[simp] theorem gtN_ (d : D) : gtN i d ρ = some (ρ.set i (.d d)) := rfl
@[simp] theorem sFor_ (tg : D → List S → Option (List S)) (it : List S → M (List D)) (body : G) : sFor tg it body ρ cs = stp (it ρ) (fun xs cs => gFor tg body xs ρ cs) ρ cs := rfl
@[simp] theorem iSeq_ (f : List S → M S) : iSeq f ρ cs = bnd (f ρ) (fun s => match s with
  | .d (.list xs) => ret xs
  | _ => stuck) cs := rfl
@[simp] theorem iTupM_ (f : List S → M S) : iTupM f ρ cs = bnd (f ρ) (fun s => match s with
  | .d (.tuple xs) => ret xs
  | _ => stuck) cs := rfl
@[simp] theorem iRng_ (f : List S → M S) : iRng f ρ cs = bnd (f ρ) (fun s => match s with
  | .d (.int j) => if -(2 ^ 62) ≤ j ∧ j < 2 ^ 62 then ret (rngD 0 j.toNat) else stuck
  | _ => stuck) cs := rfl
theorem gWhile_succ (t : List S → M Bool) (body : G) (n : Nat) : gWhile t body (n + 1) ρ cs = stp (t ρ) (fun b cs => if b = true then (match body ρ cs with
      | .nx ρ' cs' => gWhile t body n ρ' cs'
      | .ct ρ' cs' => gWhile t body n ρ' cs'
      | .bk ρ' cs' => .nx ρ' cs'
      | .rt r cs' => .rt r cs'
      | .er c ρ' cs' => .er c ρ' cs'
      | .no => .no) else .nx ρ cs) ρ cs := rfl
@[simp] theorem sSub_ (fo fi fe : List S → M S) : sSub fo fi fe ρ cs = stp (bnd (fe ρ) fun e => bnd (fo ρ) fun o => bnd (fi ρ) fun i => bnd (celM o) fun p => match e, i with
  | .d x, .d (.int k) => bnd (ofO (ixN p.2.length k)) fun j => putM p.1 (.lst (p.2.set j x))
  | _, _ => stuck) (fun _ cs => .nx ρ cs) ρ cs := rfl
@[simp] theorem runG_ (m : Nat) (g : G) (ss : List S) : runG m g ss cs = fin cs.length (g (ss ++ List.replicate m .no) cs) := rfl
@[simp] theorem fin_nx (n : Nat) : fin n (.nx ρ cs) = .ok (.d .none) (cs.take n) := rfl
@[simp] theorem fin_d (n : Nat) (x : D) : fin n (.rt (.d x) cs) = .ok (.d x) (cs.take n) := rfl
@[simp] theorem fin_own (n : Nat) (o : OC) : fin n (.rt (.own o) cs) = .ok (.own o) (cs.take n) := rfl
@[simp] theorem fin_er (n : Nat) (c : Str) : fin n (.er c ρ cs) = .er c (cs.take n) := rfl
@[simp] theorem fin_no (n : Nat) : fin n .no = .no := rfl
theorem fin_cel (n : Nat) : fin n (.rt (.cel j) cs) = if j < n then .ok (.cel j) (cs.take n) else match cs[j]? with
    | some o => .ok (.own o) (cs.take n)
    | none => .no := rfl
/-! calls -/
@[simp] theorem noCel_nil : noCel [] = true := rfl
@[simp] theorem noCel_d (x : D) (r : List S) : noCel (.d x :: r) = noCel r := rfl
@[simp] theorem noCel_fn (a : Addr) (r : List S) : noCel (.fn a :: r) = noCel r := rfl
@[simp] theorem callP_ (F : List S → M Rv) (ss : List S) : callP F ss cs = if noCel ss = true then (match F ss [] with
  | .ok (.d x) _ => .ok (.d x) cs
  | .ok (.own o) _ => .ok (.own o) cs
  | .ok (.cel _) _ => .no
  | .er c _ => .er c cs
  | .no => .no) else .no := rfl
@[simp] theorem callC_ (F : List S → M Rv) (r : List S) : callC F (.cel j :: r) cs = if noCel r = true then (match cs[j]? with
    | some o => match F (.cel 0 :: r) [o] with
      | .ok (.d x) [o'] => .ok (.d x) (cs.set j o')
      | .ok (.own u) [o'] => .ok (.own u) (cs.set j o')
      | .ok (.cel 0) [o'] => .ok (.cel j) (cs.set j o')
      | .er c [o'] => .er c (cs.set j o')
      | _ => .no
    | none => .no) else .no := rfl
@[simp] theorem eCall_ (F : List S → M Rv) (g : List S → M (List S)) : eCall F g ρ cs = bnd (g ρ) (callP F) cs := rfl
@[simp] theorem eCallC_ (F : List S → M Rv) (g : List S → M (List S)) : eCallC F g ρ cs = bnd (g ρ) (callC F) cs := rfl
@[simp] theorem eCallL_ (a : Addr) (F : List S → M Rv) (g : List S → M (List S)) : eCallL i a F g ρ cs = match ρ[i]? with
  | some (.fn b) => if b = a then bnd (g ρ) (fun ss cs => match callP F ss cs with
    | .er _ _ => .no
    | o => o) cs else .no
  | _ => .no := rfl
/-! data -/
@[simp] theorem addD_int (x y : Int) : addD (.int x) (.int y) = some (.int (x + y)) := rfl
@[simp] theorem subD_int (x y : Int) : subD (.int x) (.int y) = some (.int (x - y)) := rfl
@[simp] theorem mulD_int (x y : Int) : mulD (.int x) (.int y) = if x.natAbs.log2 + y.natAbs.log2 < 1000000 then some (.int (x * y)) else none := rfl
@[simp] theorem fdivD_int (x y : Int) : fdivD (.int x) (.int y) = if 0 < y ∧ y.natAbs.log2 < 9000 then some (.int (x / y)) else none := rfl
@[simp] theorem modD_int (x y : Int) : modD (.int x) (.int y) = if 0 < y then some (.int (x % y)) else none := rfl
@[simp] theorem powD_int (x y : Int) : powD (.int x) (.int y) = if 0 ≤ y ∧ y ≤ 1000000 ∧ x.natAbs < 2 ^ 64 then some (.int (x ^ y.toNat)) else none := rfl
@[simp] theorem negD_int (x : Int) : negD (.int x) = some (.int (-x)) := rfl
@[simp] theorem ltD_int (x y : Int) : ltD (.int x) (.int y) = some (decide (x < y)) := rfl
@[simp] theorem leD_int (x y : Int) : leD (.int x) (.int y) = some (decide (x ≤ y)) := rfl
@[simp] theorem gtD_int (x y : Int) : gtD (.int x) (.int y) = some (decide (y < x)) := rfl
@[simp] theorem geD_int (x y : Int) : geD (.int x) (.int y) = some (decide (y ≤ x)) := rfl
@[simp] theorem eqD_int (x y : Int) : eqD (.int x) (.int y) = some (x == y) := by simp [eqD, scalD, PyData.eqv]
@[simp] theorem eqD_str (x y : Str) : eqD (.str x) (.str y) = some (x == y) := by simp [eqD, scalD, PyData.eqv]
@[simp] theorem eqD_bool (x y : Bool) : eqD (.bool x) (.bool y) = some (x == y) := by simp [eqD, scalD, PyData.eqv]
@[simp] theorem eqD_str_int (x : Str) (y : Int) : eqD (.str x) (.int y) = some false := by simp [eqD, scalD, PyData.eqv]
@[simp] theorem eqD_int_str (x : Str) (y : Int) : eqD (.int y) (.str x) = some false := by simp [eqD, scalD, PyData.eqv]
@[simp] theorem neD_int (x y : Int) : neD (.int x) (.int y) = some (!(x == y)) := by simp [neD]
@[simp] theorem neD_str (x y : Str) : neD (.str x) (.str y) = some (!(x == y)) := by simp [neD]
@[simp] theorem isnD_none : isnD .none = some true := rfl
@[simp] theorem isnD_bool (b : Bool) : isnD (.bool b) = some false := rfl
@[simp] theorem isnD_int (b : Int) : isnD (.int b) = some false := rfl
@[simp] theorem isnD_str (b : Str) : isnD (.str b) = some false := rfl
@[simp] theorem isnD_list (b : List D) : isnD (.list b) = some false := rfl
@[simp] theorem isnD_tuple (b : List D) : isnD (.tuple b) = some false := rfl
@[simp] theorem truD_bool (b : Bool) : truD (.bool b) = some b := rfl
@[simp] theorem truD_none : truD .none = some false := rfl
@[simp] theorem truD_list (b : List D) : truD (.list b) = some (!b.isEmpty) := rfl
@[simp] theorem truD_tuple (b : List D) : truD (.tuple b) = some (!b.isEmpty) := rfl
@[simp] theorem lenG_list (b : List D) : lenG [.list b] = some (.int b.length) := rfl
@[simp] theorem lenG_tuple (b : List D) : lenG [.tuple b] = some (.int b.length) := rfl
@[simp] theorem minG_ (x y : Int) : minG [.int x, .int y] = some (.int (if y < x then y else x)) := rfl
@[simp] theorem maxG_ (x y : Int) : maxG [.int x, .int y] = some (.int (if y > x then y else x)) := rfl
@[simp] theorem intG_int (x : Int) : intG [.int x] = some (.int x) := rfl
@[simp] theorem intG_bool (x : Bool) : intG [.bool x] = some (.int (if x then 1 else 0)) := rfl
@[simp] theorem listG_list (x : List D) : listG [.list x] = some (.list x) := rfl
@[simp] theorem listG_tuple (x : List D) : listG [.tuple x] = some (.list x) := rfl
@[simp] theorem tupleG_list (x : List D) : tupleG [.list x] = some (.tuple x) := rfl
@[simp] theorem tupleG_tuple (x : List D) : tupleG [.tuple x] = some (.tuple x) := rfl
@[simp] theorem ixD_list (xs : List D) (k : Int) : ixD (.list xs) (.int k) = atI xs k := rfl
@[simp] theorem ixD_tuple (xs : List D) (k : Int) : ixD (.tuple xs) (.int k) = atI xs k := rfl
@[simp] theorem slD_list (xs : List D) (lo hi : Option Int) : slD (.list xs) lo hi = some (.list (cutD xs lo hi)) := rfl
@[simp] theorem slD_tuple (xs : List D) (lo hi : Option Int) : slD (.tuple xs) lo hi = some (.tuple (cutD xs lo hi)) := rfl
/-- an item at a place -/
theorem atI_of {α : Type} {xs : List α} {k : Int} {n : Nat} {x : α} (hk : k = (n : Int)) (h : xs[n]? = some x) : atI xs k = some x := by
  subst hk; exact atI_nat h
@[simp] theorem atI0 {α : Type} (x : α) (xs : List α) : atI (x :: xs) 0 = some x := atI_of (n := 0) rfl rfl
@[simp] theorem atI1 {α : Type} (x y : α) (xs : List α) : atI (x :: y :: xs) 1 = some y := atI_of (n := 1) rfl rfl
@[simp] theorem atI2 {α : Type} (x y z : α) (xs : List α) : atI (x :: y :: z :: xs) 2 = some z := atI_of (n := 2) rfl rfl
@[simp] theorem atI3 {α : Type} (x y z u : α) (xs : List α) : atI (x :: y :: z :: u :: xs) 3 = some u := atI_of (n := 3) rfl rfl
@[simp] theorem atI4 {α : Type} (x y z u v : α) (xs : List α) : atI (x :: y :: z :: u :: v :: xs) 4 = some v := atI_of (n := 4) rfl rfl
@[simp] theorem atI5 {α : Type} (x y z u v w : α) (xs : List α) : atI (x :: y :: z :: u :: v :: w :: xs) 5 = some w := atI_of (n := 5) rfl rfl
@[simp] theorem atI6 {α : Type} (x y z u v w p : α) (xs : List α) : atI (x :: y :: z :: u :: v :: w :: p :: xs) 6 = some p := atI_of (n := 6) rfl rfl
/-- xs[k:] -/
theorem cutD_from (xs : List D) (k : Nat) : cutD xs (some (k : Int)) none = xs.drop k := by
  unfold cutD
  rw [HT.sIx_nat, HT.sIx_none, List.take_of_length_le (by simp)]
  by_cases h : k ≤ xs.length
  · rw [Nat.min_eq_left h]
  · rw [Nat.min_eq_right (by omega), List.drop_of_length_le (Nat.le_refl _), List.drop_of_length_le (by omega)]
@[simp] theorem cutD1 (xs : List D) : cutD xs (some 1) none = xs.drop 1 := cutD_from xs 1
@[simp] theorem cutD2 (xs : List D) : cutD xs (some 2) none = xs.drop 2 := cutD_from xs 2
@[simp] theorem cutD3 (xs : List D) : cutD xs (some 3) none = xs.drop 3 := cutD_from xs 3
theorem size_ok {n : Nat} (h : n ≤ 16000000) : n ≤ sizeLine := by rw [sizeLine_eq]; omega
theorem size_lt {n : Nat} (h : n < 16000000) : n < sizeLine := by rw [sizeLine_eq]; omega
@[simp] theorem size0 : (0 : Nat) ≤ sizeLine := Nat.zero_le _
@[simp] theorem size1 : (1 : Nat) ≤ sizeLine := size_ok (by omega)
@[simp] theorem size2 : (2 : Nat) ≤ sizeLine := size_ok (by omega)
@[simp] theorem size3 : (3 : Nat) ≤ sizeLine := size_ok (by omega)
@[simp] theorem size4 : (4 : Nat) ≤ sizeLine := size_ok (by omega)
@[simp] theorem size5 : (5 : Nat) ≤ sizeLine := size_ok (by omega)
@[simp] theorem size6 : (6 : Nat) ≤ sizeLine := size_ok (by omega)
@[simp] theorem size7 : (7 : Nat) ≤ sizeLine := size_ok (by omega)
@[simp] theorem size8 : (8 : Nat) ≤ sizeLine := size_ok (by omega)
@[simp] theorem size9 : (9 : Nat) ≤ sizeLine := size_ok (by omega)
@[simp] theorem size10 : (10 : Nat) ≤ sizeLine := size_ok (by omega)
@[simp] theorem size11 : (11 : Nat) ≤ sizeLine := size_ok (by omega)
@[simp] theorem size12 : (12 : Nat) ≤ sizeLine := size_ok (by omega)
@[simp] theorem size13 : (13 : Nat) ≤ sizeLine := size_ok (by omega)
@[simp] theorem size14 : (14 : Nat) ≤ sizeLine := size_ok (by omega)
@[simp] theorem size15 : (15 : Nat) ≤ sizeLine := size_ok (by omega)
@[simp] theorem size16 : (16 : Nat) ≤ sizeLine := size_ok (by omega)
@[simp] theorem size17 : (17 : Nat) ≤ sizeLine := size_ok (by omega)
@[simp] theorem size18 : (18 : Nat) ≤ sizeLine := size_ok (by omega)
@[simp] theorem size19 : (19 : Nat) ≤ sizeLine := size_ok (by omega)
@[simp] theorem size20 : (20 : Nat) ≤ sizeLine := size_ok (by omega)
@[simp] theorem size21 : (21 : Nat) ≤ sizeLine := size_ok (by omega)
@[simp] theorem size22 : (22 : Nat) ≤ sizeLine := size_ok (by omega)
@[simp] theorem size23 : (23 : Nat) ≤ sizeLine := size_ok (by omega)
@[simp] theorem size24 : (24 : Nat) ≤ sizeLine := size_ok (by omega)
@[simp] theorem size25 : (25 : Nat) ≤ sizeLine := size_ok (by omega)
@[simp] theorem size26 : (26 : Nat) ≤ sizeLine := size_ok (by omega)
@[simp] theorem size27 : (27 : Nat) ≤ sizeLine := size_ok (by omega)
@[simp] theorem size28 : (28 : Nat) ≤ sizeLine := size_ok (by omega)
@[simp] theorem size29 : (29 : Nat) ≤ sizeLine := size_ok (by omega)
@[simp] theorem size30 : (30 : Nat) ≤ sizeLine := size_ok (by omega)
@[simp] theorem size31 : (31 : Nat) ≤ sizeLine := size_ok (by omega)
@[simp] theorem size32 : (32 : Nat) ≤ sizeLine := size_ok (by omega)
@[simp] theorem size33 : (33 : Nat) ≤ sizeLine := size_ok (by omega)
@[simp] theorem size34 : (34 : Nat) ≤ sizeLine := size_ok (by omega)
@[simp] theorem size35 : (35 : Nat) ≤ sizeLine := size_ok (by omega)
@[simp] theorem size36 : (36 : Nat) ≤ sizeLine := size_ok (by omega)
@[simp] theorem size37 : (37 : Nat) ≤ sizeLine := size_ok (by omega)
@[simp] theorem size38 : (38 : Nat) ≤ sizeLine := size_ok (by omega)
@[simp] theorem size39 : (39 : Nat) ≤ sizeLine := size_ok (by omega)
@[simp] theorem size40 : (40 : Nat) ≤ sizeLine := size_ok (by omega)
@[simp] theorem sizeLt0 : (0 : Nat) < sizeLine := size_lt (by omega)
@[simp] theorem flatD_none : flatD .none = true := rfl
@[simp] theorem flatD_bool (b : Bool) : flatD (.bool b) = true := rfl
@[simp] theorem flatD_int (b : Int) : flatD (.int b) = true := rfl
@[simp] theorem flatD_str (b : Str) : flatD (.str b) = true := rfl
@[simp] theorem eqv_str (a b : Str) : PyData.eqv (.str a) (.str b) = (a == b) := by simp [PyData.eqv]
@[simp] theorem eqv_int (a b : Int) : PyData.eqv (.int a) (.int b) = (a == b) := by simp [PyData.eqv]
@[simp] theorem eqv_int_str (a : Int) (b : Str) : PyData.eqv (.int a) (.str b) = false := by simp [PyData.eqv]
@[simp] theorem eqv_str_int (a : Int) (b : Str) : PyData.eqv (.str b) (.int a) = false := by simp [PyData.eqv]
theorem inD_tup (x : D) (ys : List D) : inD x (.tuple ys) = if (flatD x && ys.all flatD) = true then some (ys.any fun y => PyData.eqv y x) else none := rfl
theorem inD_lst (x : D) (ys : List D) : inD x (.list ys) = if (flatD x && ys.all flatD || (SeqAt.shaped x && SeqAt.shaped (.list ys))) = true then some (ys.any fun y => PyData.eqv y x) else none := rfl
@[simp] theorem inD_str (x : Str) (ys : List D) (h : ys.all flatD = true) : inD (.str x) (.tuple ys) = some (ys.any fun y => PyData.eqv y (.str x)) := by
  rw [inD_tup, h]; rfl
@[simp] theorem inD_int (x : Int) (ys : List D) (h : ys.all flatD = true) : inD (.int x) (.tuple ys) = some (ys.any fun y => PyData.eqv y (.int x)) := by
  rw [inD_tup, h]; rfl
@[simp] theorem inD_strL (x : Str) (ys : List D) (h : ys.all flatD = true) : inD (.str x) (.list ys) = some (ys.any fun y => PyData.eqv y (.str x)) := by
  rw [inD_lst, h]; rfl
@[simp] theorem inD_intL (x : Int) (ys : List D) (h : ys.all flatD = true) : inD (.int x) (.list ys) = some (ys.any fun y => PyData.eqv y (.int x)) := by
  rw [inD_lst, h]; rfl
@[simp] theorem isa_int_int (x : Int) : isaD "int" (.int x) = true := rfl
@[simp] theorem isa_bool_int (x : Int) : isaD "bool" (.int x) = false := rfl
@[simp] theorem isa_str_int (x : Int) : isaD "str" (.int x) = false := rfl
@[simp] theorem isa_list_int (x : Int) : isaD "list" (.int x) = false := rfl
@[simp] theorem isa_tuple_int (x : Int) : isaD "tuple" (.int x) = false := rfl
@[simp] theorem isa_int_bool (x : Bool) : isaD "int" (.bool x) = true := rfl
@[simp] theorem isa_bool_bool (x : Bool) : isaD "bool" (.bool x) = true := rfl
@[simp] theorem isa_str_bool (x : Bool) : isaD "str" (.bool x) = false := rfl
@[simp] theorem isa_list_bool (x : Bool) : isaD "list" (.bool x) = false := rfl
@[simp] theorem isa_tuple_bool (x : Bool) : isaD "tuple" (.bool x) = false := rfl
@[simp] theorem isa_int_str (x : Str) : isaD "int" (.str x) = false := rfl
@[simp] theorem isa_bool_str (x : Str) : isaD "bool" (.str x) = false := rfl
@[simp] theorem isa_str_str (x : Str) : isaD "str" (.str x) = true := rfl
@[simp] theorem isa_list_str (x : Str) : isaD "list" (.str x) = false := rfl
@[simp] theorem isa_tuple_str (x : Str) : isaD "tuple" (.str x) = false := rfl
@[simp] theorem isa_int_list (x : List D) : isaD "int" (.list x) = false := rfl
@[simp] theorem isa_bool_list (x : List D) : isaD "bool" (.list x) = false := rfl
@[simp] theorem isa_str_list (x : List D) : isaD "str" (.list x) = false := rfl
@[simp] theorem isa_list_list (x : List D) : isaD "list" (.list x) = true := rfl
@[simp] theorem isa_tuple_list (x : List D) : isaD "tuple" (.list x) = false := rfl
@[simp] theorem isa_int_tuple (x : List D) : isaD "int" (.tuple x) = false := rfl
@[simp] theorem isa_bool_tuple (x : List D) : isaD "bool" (.tuple x) = false := rfl
@[simp] theorem isa_str_tuple (x : List D) : isaD "str" (.tuple x) = false := rfl
@[simp] theorem isa_list_tuple (x : List D) : isaD "list" (.tuple x) = false := rfl
@[simp] theorem isa_tuple_tuple (x : List D) : isaD "tuple" (.tuple x) = true := rfl
@[simp] theorem isa_none (t : String) (h : (t == "NoneType") = false) : isaD t .none = false := h
@[simp] theorem strOk_lit (s : String) : PyData.strOk (Str.ofString s) = true := by
  rw [Str.ofString_eq_toList]
  simp only [PyData.strOk, List.all_toArray, List.all_eq_true, List.mem_map, decide_eq_true_eq]
  rintro n ⟨c, _, rfl⟩
  have h := c.valid
  unfold UInt32.isValidChar Nat.isValidChar at h
  show c.val.toNat < _
  omega
@[simp] theorem shaped_str (x : Str) : SeqAt.shaped (.str x) = PyData.strOk x := by simp [SeqAt.shaped, PyData.canLay0, PyData.depth]
@[simp] theorem shaped_int (x : Int) : SeqAt.shaped (.int x) = true := by simp [SeqAt.shaped, PyData.canLay0, PyData.depth]
@[simp] theorem shaped_bool (x : Bool) : SeqAt.shaped (.bool x) = true := by simp [SeqAt.shaped, PyData.canLay0, PyData.depth]
@[simp] theorem shaped_none : SeqAt.shaped .none = true := by simp [SeqAt.shaped, PyData.canLay0, PyData.depth]
theorem eqD_sh {a b : D} (ha : SeqAt.shaped a = true) (hb : SeqAt.shaped b = true) : eqD a b = some (PyData.eqv a b) := by
  unfold eqD; rw [ha, hb]; simp
@[simp] theorem eqD_tuple_str (x : List D) (y : Str) (ha : SeqAt.shaped (.tuple x) = true) (hb : PyData.strOk y = true) : eqD (.tuple x) (.str y) = some false := by
  rw [eqD_sh ha (by rw [shaped_str]; exact hb)]; simp [PyData.eqv]
@[simp] theorem eqD_list_str (x : List D) (y : Str) (ha : SeqAt.shaped (.list x) = true) (hb : PyData.strOk y = true) : eqD (.list x) (.str y) = some false := by
  rw [eqD_sh ha (by rw [shaped_str]; exact hb)]; simp [PyData.eqv]
@[simp] theorem eqD_none_int (x : Int) : eqD .none (.int x) = some false := by simp [eqD, scalD, PyData.eqv]
@[simp] theorem eqD_int_none (x : Int) : eqD (.int x) .none = some false := by simp [eqD, scalD, PyData.eqv]
@[simp] theorem eqD_none_str (x : Str) : eqD .none (.str x) = some false := by simp [eqD, scalD, PyData.eqv]
@[simp] theorem eqD_str_none (x : Str) : eqD (.str x) .none = some false := by simp [eqD, scalD, PyData.eqv]
@[simp] theorem eqD_none_none : eqD .none .none = some true := by simp [eqD, scalD, PyData.eqv]
theorem log2_lt {x : Int} {k : Nat} (hk : 0 < k) (h : x.natAbs < 2 ^ k) : x.natAbs.log2 < k := PySem.Flt.log2_lt_of hk h
/-! comprehensions, walks, tries -/
@[simp] theorem noEr_ (m : M α) : noEr m cs = match m cs with
  | .ok a cs' => .ok a cs'
  | _ => .no := by
  unfold noEr
  cases m cs <;> rfl
@[simp] theorem eLc_ (it : List S → M (List D)) (tg : D → List S → Option (List S)) (t : List S → M Bool) (f : List S → M S) (vs : List Nat) : eLc it tg t f vs ρ cs = bnd (it ρ) (fun xs => lcL tg t f (wipeS ρ vs) xs []) cs := rfl
@[simp] theorem lcL_nil (tg : D → List S → Option (List S)) (t : List S → M Bool) (f : List S → M S) (acc : List D) : lcL tg t f ρ [] acc cs = .ok (.own (.lst acc)) cs := rfl
theorem lcL_cons (tg : D → List S → Option (List S)) (t : List S → M Bool) (f : List S → M S) (x : D) (xs acc : List D) : lcL tg t f ρ (x :: xs) acc cs = (match tg x ρ with
    | none => stuck
    | some ρ1 => bnd (noEr (t ρ1)) fun b => if b = true then bnd (noEr (f ρ1)) fun y => (match y with
        | .d d => if acc.length < sizeLine then lcL tg t f ρ xs (acc ++ [d]) else stuck
        | _ => stuck)
      else lcL tg t f ρ xs acc) cs := rfl
@[simp] theorem tYesM_ : tYesM ρ cs = .ok true cs := rfl
@[simp] theorem wipeS_nil : wipeS ρ [] = ρ := rfl
@[simp] theorem wipeS_cons (v : Nat) (vs : List Nat) : wipeS ρ (v :: vs) = (wipeS ρ vs).set v .no := rfl
@[simp] theorem iAnyM_ (f : List S → M S) : iAnyM f ρ cs = bnd (f ρ) (fun s => match s with
  | .d x => ofO (itD x)
  | _ => stuck) cs := rfl
@[simp] theorem itD_list (xs : List D) : itD (.list xs) = some xs := rfl
@[simp] theorem itD_tuple (xs : List D) : itD (.tuple xs) = some xs := rfl
@[simp] theorem itD_str (x : Str) : itD (.str x) = some (x.cps.toList.map chD) := rfl
/-- a comprehension whose parts leave the store as it is -/
theorem lcL_pure {tg : D → List S → Option (List S)} {t : List S → M Bool} {f : List S → M S} (ρx : D → List S) (p : D → Bool) (g : D → D) : ∀ (xs acc : List D), (∀ x ∈ xs, tg x ρ = some (ρx x) ∧ t (ρx x) cs = .ok (p x) cs ∧ (p x = true → f (ρx x) cs = .ok (.d (g x)) cs)) → acc.length + xs.length ≤ sizeLine →
    lcL tg t f ρ xs acc cs = .ok (.own (.lst (acc ++ (xs.filter p).map g))) cs
  | [], acc, _, _ => by simp
  | x :: xs, acc, h, hl => by
    obtain ⟨h1, h2, h3⟩ := h x (by simp)
    rw [List.length_cons] at hl
    rw [lcL_cons, h1]
    cases hp : p x with
    | false =>
      simp only [bnd_, noEr_, h2, hp, Bool.false_eq_true, if_false, List.filter_cons]
      exact lcL_pure ρx p g xs acc (fun y hy => h y (by simp [hy])) (by omega)
    | true =>
      have ih := lcL_pure ρx p g xs (acc ++ [g x]) (fun y hy => h y (by simp [hy])) (by simp; omega)
      have hlt : acc.length < sizeLine := by omega
      simp only [bnd_, noEr_, h2, h3 hp, hp, if_true, List.filter_cons, if_pos hlt, ih]
      simp
/-- a walk that ends as soon as a look fails -/
theorem gFor_all {tg : D → List S → Option (List S)} {body : G} (ok : D → Bool) (r : Rv) (P : List S → Prop) : ∀ (xs : List D) (ρ0 : List S), P ρ0 → (∀ x ∈ xs, ∀ ρ1, P ρ1 → ∃ ρ2, tg x ρ1 = some ρ2 ∧ ((ok x = true ∧ ∃ ρ3, body ρ2 cs = .nx ρ3 cs ∧ P ρ3) ∨ (ok x = false ∧ body ρ2 cs = .rt r cs))) →
    (xs.all ok = true ∧ ∃ ρ', gFor tg body xs ρ0 cs = .nx ρ' cs ∧ P ρ') ∨ (xs.all ok = false ∧ gFor tg body xs ρ0 cs = .rt r cs)
  | [], ρ0, h0, _ => .inl ⟨rfl, ρ0, rfl, h0⟩
  | x :: xs, ρ0, h0, h => by
    obtain ⟨ρ2, e1, ⟨e2, ρ3, e3, e4⟩ | ⟨e2, e3⟩⟩ := h x (by simp) ρ0 h0
    · rcases gFor_all ok r P xs ρ3 e4 (fun y hy => h y (by simp [hy])) with ⟨k1, ρ', k2, k3⟩ | ⟨k1, k2⟩
      · refine .inl ⟨by simp [e2, k1], ρ', ?_, k3⟩
        rw [gFor_cons, e1]
        simp only [e3, k2]
      · refine .inr ⟨by simp [e2, k1], ?_⟩
        rw [gFor_cons, e1]
        simp only [e3, k2]
    · refine .inr ⟨by simp [e2], ?_⟩
      rw [gFor_cons, e1]
      simp only [e3]
@[simp] theorem clr_nx (i : Nat) : clr i (.nx ρ cs) = .nx (ρ.set i .no) cs := rfl
@[simp] theorem clr_rt (i : Nat) (r : Rv) : clr i (.rt r cs) = .rt r cs := rfl
theorem hAs_of {i : Nat} {h : Str → Addr → G} {c : Str} {o : Out} (e : ∀ a, clr i (h c a (ρ.set i (.fn a)) cs) = o) : hAs i h c ρ cs = o := by
  unfold hAs
  rw [if_pos (fun a => (e a).trans (e 0).symm), e 0]
@[simp] theorem mulE_int (x y : Int) : mulE (.int x) (.int y) = mulD (.int x) (.int y) := rfl
@[simp] theorem mulE_tuple (xs : List D) (k : Int) : mulE (.tuple xs) (.int k) = if -1000000000 ≤ k ∧ k ≤ 1000000000 ∧ xs.length * k.toNat ≤ 1000000 then some (.tuple (List.replicate k.toNat xs).flatten) else none := rfl
@[simp] theorem mulE_list (xs : List D) (k : Int) : mulE (.list xs) (.int k) = if -1000000000 ≤ k ∧ k ≤ 1000000000 ∧ xs.length * k.toNat ≤ sizeLine then some (.list (List.replicate k.toNat xs).flatten) else none := rfl
@[simp] theorem addD_tuple (xs ys : List D) : addD (.tuple xs) (.tuple ys) = if xs.length + ys.length ≤ sizeLine then some (.tuple (xs ++ ys)) else none := rfl
@[simp] theorem addD_list (xs ys : List D) : addD (.list xs) (.list ys) = if xs.length + ys.length ≤ sizeLine then some (.list (xs ++ ys)) else none := rfl
@[simp] theorem addD_str (x y : Str) : addD (.str x) (.str y) = if x.length + y.length ≤ sizeLine then some (.str (x ++ y)) else none := rfl
@[simp] theorem lenSetG_list (xs : List D) : lenSetG [.list xs] = match kysD xs with
    | some ks => if ks.length < 4000 then some (.int (fmK ks).length) else none
    | none => none := rfl
@[simp] theorem strG_str (x : Str) : strG [.str x] = some (.str x) := rfl
@[simp] theorem strG_int (i : Int) : strG [.int i] = if i.natAbs.log2 < 1920 then some (.str (toString i)) else none := rfl
@[simp] theorem inD_ch (c : Nat) (z : Str) : inD (chD c) (.str z) = some (decide (c ∈ z.cps.toList)) := rfl
theorem ninD_eq (x y : D) : ninD x y = (inD x y).map (!·) := rfl
@[simp] theorem ninD_of {x y : D} {b : Bool} (h : inD x y = some b) : ninD x y = some (!b) := by rw [ninD_eq, h]; rfl
@[simp] theorem vwsM_c0 (xs : List D) (r : List S) (c : Store) : vwsM (.cel 0 :: r) (.lst xs :: c) = bnd (vwsM r) (fun ds => ret (.list xs :: ds)) (.lst xs :: c) := vwsM_cel r rfl
@[simp] theorem vwsM_c1 (o : OC) (xs : List D) (r : List S) (c : Store) : vwsM (.cel 1 :: r) (o :: .lst xs :: c) = bnd (vwsM r) (fun ds => ret (.list xs :: ds)) (o :: .lst xs :: c) := vwsM_cel r rfl
@[simp] theorem vwsM_c2 (o o2 : OC) (xs : List D) (r : List S) (c : Store) : vwsM (.cel 2 :: r) (o :: o2 :: .lst xs :: c) = bnd (vwsM r) (fun ds => ret (.list xs :: ds)) (o :: o2 :: .lst xs :: c) := vwsM_cel r rfl
end
end Dn

set_option Elab.async false
set_option linter.all false
set_option maxRecDepth 100000
set_option maxHeartbeats 4000000
namespace Law
open PySem L2 Dn
noncomputable section
def exKnown (c : PySem.Str) : Bool := c == "WhatbefellError" || (c == "BadForm" || (c == "BadWords" || (c == "BadTreaty" || (c == "BadRule" || (c == "BadArgument" || (c == "TooLarge"))))))
def exSub_BadArgument (c : PySem.Str) : Bool := c == "BadArgument"
def exSub_BadForm (c : PySem.Str) : Bool := c == "BadForm"
def exSub_BadRule (c : PySem.Str) : Bool := c == "BadRule"
def exSub_BadTreaty (c : PySem.Str) : Bool := c == "BadTreaty"
def exSub_BadWords (c : PySem.Str) : Bool := c == "BadWords"
def exSub_TooLarge (c : PySem.Str) : Bool := c == "TooLarge"
def exSub_WhatbefellError (c : PySem.Str) : Bool := c == "WhatbefellError" || (c == "BadForm" || (c == "BadWords" || (c == "BadTreaty" || (c == "BadRule" || (c == "BadArgument" || (c == "TooLarge"))))))
def B_is_number : G :=
    (sRet (eRv (eAndM (eIsa "int" (eV 0)) (eAndM (eNotM (eIsa "bool" (eV 0))) (eChn leD leD (eV 1) (eV 0) (eV 2))))))
def F_is_number : List S → M Rv := runG 0 B_is_number
def B_is_name : G :=
    (gSeq (sIf (tOrM (tNotM (tT (eIsa "str" (eV 0)))) (tOrM (tNotM (tChn leD leD (eC (.int (1))) (eCd lenG (aCons (eV 0) aNil)) (eC (.int (8))))) (op2 ninD (eBin ixD (eV 0) (eC (.int (0)))) (eC (.str "abcdefghijklmnopqrstuvwxyz"))))) (sRet (eRv (eC (.bool false)))) gNil)
    (sRet (eRv (eCmp eqD (eFrz (eLc (iAnyM (eV 0)) (gtN 1) (tAndM (op2 ninD (eV 1) (eC (.str "abcdefghijklmnopqrstuvwxyz"))) (op2 ninD (eV 1) (eC (.str "0123456789")))) (eV 1) [1])) (eFrz (eLst aNil))))))
def F_is_name : List S → M Rv := runG 1 B_is_name
def B_is_day : G :=
    (sRet (eCall F_is_number (aCons (eV 0) (aCons (eC (.int (0))) (aCons (eC (.int (36500))) aNil)))))
def F_is_day : List S → M Rv := runG 0 B_is_day
def B_is_tuple : G :=
    (sRet (eRv (eAndM (eIsa "tuple" (eV 0)) (eChn leD leD (eV 1) (eCd lenG (aCons (eV 0) aNil)) (eV 2)))))
def F_is_tuple : List S → M Rv := runG 0 B_is_tuple
def B_are_unlike : G :=
    (sRet (eRv (eCmp eqD (eCd lenSetG (aCons (eV 0) aNil)) (eCd lenG (aCons (eV 0) aNil)))))
def F_are_unlike : List S → M Rv := runG 0 B_are_unlike
def B_are_names : G :=
    (sRet (eRv (eAndM (eFrz (eCall F_is_tuple (aCons (eV 0) (aCons (eC (.int (1))) (aCons (eC (.int (12))) aNil))))) (eCmp eqD (eFrz (eLc (iAnyM (eV 0)) (gtN 1) (tNotM (tT (eFrz (eCall F_is_name (aCons (eV 1) aNil))))) (eV 1) [1])) (eFrz (eLst aNil))))))
def F_are_names : List S → M Rv := runG 1 B_are_names
def B_conditions_in : G :=
    (gSeq (sIf (tOrM (tNotM (tT (eIsa "tuple" (eV 0)))) (tOrM (op2 ltD (eCd lenG (aCons (eV 0) aNil)) (eC (.int (1)))) (tNotM (tT (eIsa "str" (eBin ixD (eV 0) (eC (.int (0))))))))) (sRet (eRv (eC .none))) gNil)
    (gSeq (sSet 1 (eBin ixD (eV 0) (eC (.int (0)))))
    (gSeq (sSet 2 (eSl (eV 0) (oSome (eC (.int (1)))) oNone))
    (gSeq (sIf (op2 eqD (eV 1) (eC (.str "always"))) (sSet 3 (eCmp eqD (eCd lenG (aCons (eV 2) aNil)) (eC (.int (0))))) (sIf (op2 inD (eV 1) (eTup (aCons (eC (.str "peril")) (aCons (eC (.str "place")) (aCons (eC (.str "object")) aNil))))) (sSet 3 (eFrz (eCall F_are_names (aCons (eV 2) aNil)))) (sIf (op2 eqD (eV 1) (eC (.str "day"))) (sSet 3 (eAndM (eCmp eqD (eCd lenG (aCons (eV 2) aNil)) (eC (.int (2)))) (eAndM (eFrz (eCall F_is_day (aCons (eBin ixD (eV 2) (eC (.int (0)))) aNil))) (eAndM (eFrz (eCall F_is_day (aCons (eBin ixD (eV 2) (eC (.int (1)))) aNil))) (eCmp leD (eBin ixD (eV 2) (eC (.int (0)))) (eBin ixD (eV 2) (eC (.int (1))))))))) (sIf (op2 eqD (eV 1) (eC (.str "noticed"))) (sSet 3 (eAndM (eCmp eqD (eCd lenG (aCons (eV 2) aNil)) (eC (.int (1)))) (eFrz (eCall F_is_number (aCons (eBin ixD (eV 2) (eC (.int (0)))) (aCons (eC (.int (0))) (aCons (eC (.int (6000))) aNil))))))) (sIf (op2 eqD (eV 1) (eC (.str "says"))) (sSet 3 (eAndM (eCmp eqD (eCd lenG (aCons (eV 2) aNil)) (eC (.int (1)))) (eFrz (eCall F_is_name (aCons (eBin ixD (eV 2) (eC (.int (0)))) aNil))))) (sIf (tOrM (tAndM (op2 eqD (eV 1) (eC (.str "not"))) (op2 eqD (eCd lenG (aCons (eV 2) aNil)) (eC (.int (1))))) (tAndM (op2 inD (eV 1) (eTup (aCons (eC (.str "and")) (aCons (eC (.str "or")) aNil)))) (tChn leD leD (eC (.int (1))) (eCd lenG (aCons (eV 2) aNil)) (eC (.int (12)))))) (sRet (eRv (eCd listG (aCons (eV 2) aNil)))) (sSet 3 (eC (.bool false)))))))))
    (sRet (eRv (eIf (tT (eV 3)) (eFrz (eLst aNil)) (eC .none))))))))
def F_conditions_in : List S → M Rv := runG 3 B_conditions_in
def B_are_few__conditions_in (K : PySem.W.Frag) : G :=
    (gSeq (sNew 2 (eLst (aCons (eV 0) aNil)))
    (gSeq (sSet 3 (eC (.int (0))))
    (gSeq (sWhile (fun _ _ => 100) (tAndM (tT (eV 2)) (op2 leD (eV 3) (eC (.int (60))))) (gSeq (sSet 4 (eFrz (eCallL 1 (He.ga K "conditions_in") F_conditions_in (aCons (eMt0 popG (eV 2)) aNil))))
      (gSeq (sIf (op1 isnD (eV 4)) (sRet (eRv (eC (.bool false)))) gNil)
      (gSeq (sSet 3 (eBin addD (eV 3) (eC (.int (1)))))
      (sExp (eMt extG (eV 2) (aCons (eV 4) aNil)))))))
    (sRet (eRv (eCmp leD (eV 3) (eC (.int (60)))))))))
def F_are_few__conditions_in (K : PySem.W.Frag) : List S → M Rv := runG 3 (B_are_few__conditions_in K)
def B_is_condition (K : PySem.W.Frag) : G :=
    (sRet (eCall (F_are_few__conditions_in K) (aCons (eV 0) (aCons (eFn (He.ga K "conditions_in")) aNil))))
def F_is_condition (K : PySem.W.Frag) : List S → M Rv := runG 0 (B_is_condition K)
def B_is_timeless (f_is_timeless : List S → M Rv) : G :=
    (gSeq (sIf (op2 eqD (eBin ixD (eV 0) (eC (.int (0)))) (eC (.str "noticed"))) (sRet (eRv (eC (.bool false)))) gNil)
    (gSeq (sIf (op2 inD (eBin ixD (eV 0) (eC (.int (0)))) (eTup (aCons (eC (.str "not")) (aCons (eC (.str "and")) (aCons (eC (.str "or")) aNil))))) (sRet (eRv (eCmp eqD (eFrz (eLc (iAnyM (eSl (eV 0) (oSome (eC (.int (1)))) oNone)) (gtN 1) (tNotM (tT (eFrz (eCall f_is_timeless (aCons (eV 1) aNil))))) (eV 1) [1])) (eFrz (eLst aNil))))) gNil)
    (sRet (eRv (eC (.bool true))))))
def F_is_timeless : Nat → List S → M Rv
  | 0 => F0
  | n + 1 => runG 1 (B_is_timeless (F_is_timeless n))
def B_are_pairs : G :=
    (gSeq (sIf (tOrM (tNotM (tT (eFrz (eCall F_is_tuple (aCons (eV 0) (aCons (eV 1) (aCons (eV 2) aNil))))))) (tT (eFrz (eLc (iAnyM (eV 0)) (gtN 3) (tOrM (tNotM (tT (eFrz (eCall F_is_tuple (aCons (eV 3) (aCons (eC (.int (2))) (aCons (eC (.int (2))) aNil))))))) (tNotM (tT (eFrz (eCall F_is_name (aCons (eBin ixD (eV 3) (eC (.int (0)))) aNil)))))) (eV 3) [3])))) (sRet (eRv (eC (.bool false)))) gNil)
    (sRet (eCall F_are_unlike (aCons (eFrz (eLc (iAnyM (eV 0)) (gtN 3) tYesM (eBin ixD (eV 3) (eC (.int (0)))) [3])) aNil))))
def F_are_pairs : List S → M Rv := runG 1 B_are_pairs
def B_is_step : G :=
    (gSeq (sIf (tOrM (tNotM (tT (eFrz (eCall F_is_tuple (aCons (eV 0) (aCons (eC (.int (6))) (aCons (eC (.int (6))) aNil))))))) (tOrM (op2 ninD (eBin ixD (eV 0) (eC (.int (0)))) (eV 1)) (tOrM (op2 ninD (eBin ixD (eV 0) (eC (.int (1)))) (eV 2)) (op2 ninD (eBin ixD (eV 0) (eC (.int (3)))) (eV 1))))) (sRet (eRv (eC (.bool false)))) gNil)
    (gSeq (sIf (tOrM (tNotM (tT (eIsa "tuple" (eBin ixD (eV 0) (eC (.int (2))))))) (tNotM (tT (eIsa "tuple" (eBin ixD (eV 0) (eC (.int (4)))))))) (sRet (eRv (eC (.bool false)))) gNil)
    (gSeq (sFor (gtN 4) (iAnyM (eBin ixD (eV 0) (eC (.int (2))))) (gSeq (sIf (tOrM (tNotM (tT (eFrz (eCall F_is_tuple (aCons (eV 4) (aCons (eC (.int (3))) (aCons (eC (.int (3))) aNil))))))) (op2 ninD (eBin ixD (eV 4) (eC (.int (0)))) (eV 3))) (sRet (eRv (eC (.bool false)))) gNil)
      (sIf (tOrM (tNotM (tT (eFrz (eCall F_is_number (aCons (eBin ixD (eV 4) (eC (.int (1)))) (aCons (eC (.int (0))) (aCons (eC (.int (40))) aNil))))))) (tNotM (tT (eFrz (eCall F_is_number (aCons (eBin ixD (eV 4) (eC (.int (2)))) (aCons (eC (.int (0))) (aCons (eC (.int (40))) aNil)))))))) (sRet (eRv (eC (.bool false)))) gNil)))
    (gSeq (sFor (gtN 5) (iAnyM (eBin ixD (eV 0) (eC (.int (4))))) (sIf (tOrM (tNotM (tT (eFrz (eCall F_is_tuple (aCons (eV 5) (aCons (eC (.int (2))) (aCons (eC (.int (2))) aNil))))))) (tOrM (op2 ninD (eBin ixD (eV 5) (eC (.int (0)))) (eV 3)) (tNotM (tT (eFrz (eCall F_is_number (aCons (eBin ixD (eV 5) (eC (.int (1)))) (aCons (eNeg (eC (.int (40)))) (aCons (eC (.int (40))) aNil))))))))) (sRet (eRv (eC (.bool false)))) gNil))
    (sRet (eRv (eAndM (eFrz (eCall F_are_unlike (aCons (eFrz (eLc (iAnyM (eBin ixD (eV 0) (eC (.int (4))))) (gtN 5) tYesM (eBin ixD (eV 5) (eC (.int (0)))) [5])) aNil))) (eFrz (eCall F_is_number (aCons (eBin ixD (eV 0) (eC (.int (5)))) (aCons (eNeg (eC (.int (1000000000)))) (aCons (eC (.int (1000000000))) aNil))))))))))))
def F_is_step : List S → M Rv := runG 2 B_is_step
def B_is_rule (K : PySem.W.Frag) : G :=
    (gSeq (sIf (tOrM (tNotM (tT (eFrz (eCall F_is_tuple (aCons (eV 0) (aCons (eC (.int (7))) (aCons (eC (.int (7))) aNil))))))) (tOrM (tNotM (tT (eIsa "str" (eBin ixD (eV 0) (eC (.int (0))))))) (tOrM (op2 neD (eBin ixD (eV 0) (eC (.int (0)))) (eC (.str "rule"))) (tNotM (tT (eFrz (eCall F_is_name (aCons (eBin ixD (eV 0) (eC (.int (1)))) aNil)))))))) (sRet (eRv (eC (.bool false)))) gNil)
    (gSeq (sIf (tOrM (tNotM (tT (eIsa "str" (eBin ixD (eV 0) (eC (.int (2))))))) (tOrM (op2 ninD (eBin ixD (eV 0) (eC (.int (2)))) (eTup (aCons (eC (.str "told")) (aCons (eC (.str "date")) aNil)))) (tNotM (tT (eFrz (eCall F_are_pairs (aCons (eBin ixD (eV 0) (eC (.int (3)))) (aCons (eC (.int (1))) (aCons (eC (.int (12))) aNil))))))))) (sRet (eRv (eC (.bool false)))) gNil)
    (gSeq (sIf (tT (eFrz (eLc (iAnyM (eBin ixD (eV 0) (eC (.int (3))))) (gtN 4) (tOrM (tNotM (tT (eFrz (eCall (F_is_condition K) (aCons (eBin ixD (eV 4) (eC (.int (1)))) aNil))))) (tNotM (tT (eFrz (eCall (F_is_timeless 12) (aCons (eBin ixD (eV 4) (eC (.int (1)))) aNil)))))) (eV 4) [4]))) (sRet (eRv (eC (.bool false)))) gNil)
    (gSeq (sIf (tOrM (tNotM (tT (eFrz (eCall F_are_pairs (aCons (eBin ixD (eV 0) (eC (.int (4)))) (aCons (eC (.int (1))) (aCons (eC (.int (40))) aNil))))))) (tT (eFrz (eLc (iAnyM (eBin ixD (eV 0) (eC (.int (4))))) (gtN 4) (tNotM (tT (eFrz (eCall F_is_name (aCons (eBin ixD (eV 4) (eC (.int (1)))) aNil))))) (eV 4) [4])))) (sRet (eRv (eC (.bool false)))) gNil)
    (gSeq (sIf (tOrM (tNotM (tT (eFrz (eCall F_are_pairs (aCons (eBin ixD (eV 0) (eC (.int (5)))) (aCons (eC (.int (0))) (aCons (eC (.int (3))) aNil))))))) (tT (eFrz (eLc (iAnyM (eBin ixD (eV 0) (eC (.int (5))))) (gtN 4) (tNotM (tT (eFrz (eCall F_is_number (aCons (eBin ixD (eV 4) (eC (.int (1)))) (aCons (eC (.int (1))) (aCons (eC (.int (40))) aNil))))))) (eV 4) [4])))) (sRet (eRv (eC (.bool false)))) gNil)
    (gSeq (sSet 1 (eFrz (eLc (iAnyM (eBin ixD (eV 0) (eC (.int (3))))) (gtN 4) tYesM (eBin ixD (eV 4) (eC (.int (0)))) [4])))
    (gSeq (sSet 2 (eFrz (eLc (iAnyM (eBin ixD (eV 0) (eC (.int (4))))) (gtN 4) tYesM (eBin ixD (eV 4) (eC (.int (0)))) [4])))
    (gSeq (sSet 3 (eFrz (eLc (iAnyM (eBin ixD (eV 0) (eC (.int (5))))) (gtN 4) tYesM (eBin ixD (eV 4) (eC (.int (0)))) [4])))
    (gSeq (sIf (tNotM (tT (eFrz (eCall F_is_tuple (aCons (eBin ixD (eV 0) (eC (.int (6)))) (aCons (eC (.int (0))) (aCons (eC (.int (200))) aNil))))))) (sRet (eRv (eC (.bool false)))) gNil)
    (sRet (eRv (eCmp eqD (eFrz (eLc (iAnyM (eBin ixD (eV 0) (eC (.int (6))))) (gtN 4) (tNotM (tT (eFrz (eCall F_is_step (aCons (eV 4) (aCons (eV 2) (aCons (eV 1) (aCons (eV 3) aNil)))))))) (eV 4) [4])) (eFrz (eLst aNil))))))))))))))
def F_is_rule (K : PySem.W.Frag) : List S → M Rv := runG 4 (B_is_rule K)
def B_check_rule (K : PySem.W.Frag) : G :=
    (sIf (tNotM (tT (eFrz (eCall (F_is_rule K) (aCons (eV 0) aNil))))) (sErr "BadRule") gNil)
def F_check_rule (K : PySem.W.Frag) : List S → M Rv := runG 0 (B_check_rule K)
def B__law_mixed : G :=
    (gSeq (sSet 2 (eBin modD (eBin addD (eBin addD (eBin mulD (eV 0) (eC (.int (48271)))) (eBin mulD (eV 1) (eC (.int (69621))))) (eC (.int (12345)))) (eC (.int (2147483647)))))
    (sRet (eRv (eBin modD (eBin addD (eBin mulD (eV 2) (eBin addD (eBin fdivD (eV 2) (eC (.int (65536)))) (eC (.int (3))))) (eV 1)) (eC (.int (2147483647)))))))
def F__law_mixed : List S → M Rv := runG 1 B__law_mixed
def B__law_numbers : G :=
    (gSeq (sNew 1 (eLst aNil))
    (gSeq (sFor (gtN 2) (iAnyM (eV 0)) (sIf (op2 geD (eV 2) (eBin powD (eC (.int (10))) (eC (.int (18))))) (gSeq (sSet 3 (eV 2))
        (sFor (gtN 4) (iRng (eC (.int (60)))) (sIf (op2 gtD (eV 3) (eC (.int (0)))) (gSeq (sExp (eMt appG (eV 1) (aCons (eBin modD (eV 3) (eC (.int (1000000)))) aNil)))
            (sSet 3 (eBin fdivD (eV 3) (eC (.int (1000000)))))) gNil))) (gSeq (sExp (eMt appG (eV 1) (aCons (eBin modD (eV 2) (eC (.int (1000000)))) aNil)))
        (sFor (gtN 4) (iRng (eC (.int (5)))) (sExp (eMt appG (eV 1) (aCons (eBin modD (eFrz (eCall F__law_mixed (aCons (eFrz (eCall F__law_mixed (aCons (eBin modD (eV 2) (eC (.int (2147483647)))) (aCons (eV 4) aNil)))) (aCons (eBin addD (eV 4) (eC (.int (7)))) aNil)))) (eC (.int (1000000)))) aNil)))))))
    (sRet (eRv (eV 1)))))
def F__law_numbers : List S → M Rv := runG 4 B__law_numbers
def B__law_draw : G :=
    (gSeq (sSet 1 (eBin ixD (eV 0) (eC (.int (1)))))
    (gSeq (sSub (eV 0) (eC (.int (1))) (eBin addD (eV 1) (eC (.int (1)))))
    (gSeq (sIf (op2 ltD (eV 1) (eCd lenG (aCons (eBin ixD (eV 0) (eC (.int (0)))) aNil))) (sRet (eRv (eBin ixD (eBin ixD (eV 0) (eC (.int (0)))) (eV 1)))) gNil)
    (gSeq (sSet 2 (eBin addD (eC (.int (1))) (eV 1)))
    (gSeq (sIf (op2 gtD (eCd lenG (aCons (eBin ixD (eV 0) (eC (.int (0)))) aNil)) (eC (.int (0)))) (sSet 2 (eBin addD (eV 2) (eBin mulD (eC (.int (1009))) (eBin ixD (eBin ixD (eV 0) (eC (.int (0)))) (eC (.int (0))))))) gNil)
    (sRet (eRv (eBin modD (eFrz (eCall F__law_mixed (aCons (eFrz (eCall F__law_mixed (aCons (eV 2) (aCons (eV 1) aNil)))) (aCons (eC (.int (5))) aNil)))) (eC (.int (1000000)))))))))))
def F__law_draw : List S → M Rv := runG 2 B__law_draw
def B__law_all_equal (f__law_all_equal : List S → M Rv) (f__law_equal : List S → M Rv) : G :=
    (gSeq (sFor (gtN 2) (iRng (eCd lenG (aCons (eV 1) aNil))) (sIf (tNotM (tT (eFrz (eCall f__law_equal (aCons (eBin ixD (eV 0) (eV 2)) (aCons (eBin ixD (eV 1) (eV 2)) aNil)))))) (sRet (eRv (eC (.bool false)))) gNil))
    (sRet (eRv (eC (.bool true)))))
def B__law_equal (f__law_all_equal : List S → M Rv) (f__law_equal : List S → M Rv) : G :=
    (gSeq (sIf (tT (eIsa "list" (eV 1))) (gSeq (sIf (tOrM (tNotM (tT (eIsa "list" (eV 0)))) (op2 neD (eCd lenG (aCons (eV 0) aNil)) (eCd lenG (aCons (eV 1) aNil)))) (sRet (eRv (eC (.bool false)))) gNil)
      (sRet (eCall f__law_all_equal (aCons (eV 0) (aCons (eV 1) aNil))))) gNil)
    (gSeq (sIf (tT (eIsa "tuple" (eV 1))) (gSeq (sIf (tOrM (tNotM (tT (eIsa "tuple" (eV 0)))) (op2 neD (eCd lenG (aCons (eV 0) aNil)) (eCd lenG (aCons (eV 1) aNil)))) (sRet (eRv (eC (.bool false)))) gNil)
      (sRet (eCall f__law_all_equal (aCons (eV 0) (aCons (eV 1) aNil))))) gNil)
    (gSeq (sIf (tT (eIsa "bool" (eV 1))) (sRet (eRv (eAndM (eIsa "bool" (eV 0)) (eCmp eqD (eV 0) (eV 1))))) gNil)
    (gSeq (sIf (tT (eIsa "int" (eV 1))) (sRet (eRv (eAndM (eIsa "int" (eV 0)) (eAndM (eNotM (eIsa "bool" (eV 0))) (eCmp eqD (eV 0) (eV 1)))))) gNil)
    (gSeq (sIf (tT (eIsa "str" (eV 1))) (sRet (eRv (eAndM (eIsa "str" (eV 0)) (eCmp eqD (eV 0) (eV 1))))) gNil)
    (sRet (eRv (eIsN (eV 0)))))))))
mutual
def F__law_all_equal : Nat → List S → M Rv
  | 0 => F0
  | n + 1 => runG 1 (B__law_all_equal (F__law_all_equal n) (F__law_equal n))
def F__law_equal : Nat → List S → M Rv
  | 0 => F0
  | n + 1 => runG 0 (B__law_equal (F__law_all_equal n) (F__law_equal n))
end
def B__law_rule : G :=
    (gSeq (sSet 1 (eSl (eTup (aCons (eTup (aCons (eC (.str "a")) (aCons (eTup (aCons (eC (.str "peril")) (aCons (eC (.str "fire")) aNil))) aNil))) (aCons (eTup (aCons (eC (.str "b")) (aCons (eTup (aCons (eC (.str "peril")) (aCons (eC (.str "water")) aNil))) aNil))) (aCons (eTup (aCons (eC (.str "c")) (aCons (eTup (aCons (eC (.str "always")) aNil)) aNil))) aNil)))) oNone (oSome (eBin addD (eC (.int (2))) (eBin modD (eFrz (eCallC F__law_draw (aCons (eV 0) aNil))) (eC (.int (2))))))))
    (gSeq (sSet 2 (eSl (eFrz (eLst (aCons (eC (.str "s0")) (aCons (eC (.str "s1")) (aCons (eC (.str "s2")) (aCons (eC (.str "s3")) aNil)))))) oNone (oSome (eBin addD (eC (.int (1))) (eBin modD (eFrz (eCallC F__law_draw (aCons (eV 0) aNil))) (eC (.int (4))))))))
    (gSeq (sSet 3 (eFrz (eLst (aCons (eC (.str "red")) (aCons (eC (.str "blue")) aNil)))))
    (gSeq (sSet 4 (eCd tupleG (aCons (eFrz (eLc (iAnyM (eV 2)) (gtN 8) tYesM (eTup (aCons (eV 8) (aCons (eBin ixD (eV 3) (eBin fdivD (eBin modD (eFrz (eCallC F__law_draw (aCons (eV 0) aNil))) (eC (.int (3)))) (eC (.int (2))))) aNil))) [8])) aNil)))
    (gSeq (sSet 5 (eSl (eTup (aCons (eTup (aCons (eC (.str "t")) (aCons (eBin addD (eC (.int (1))) (eBin modD (eFrz (eCallC F__law_draw (aCons (eV 0) aNil))) (eC (.int (3))))) aNil))) aNil)) oNone (oSome (eBin modD (eFrz (eCallC F__law_draw (aCons (eV 0) aNil))) (eC (.int (2)))))))
    (gSeq (sNew 6 (eLst aNil))
    (gSeq (sSet 7 (eBin modD (eFrz (eCallC F__law_draw (aCons (eV 0) aNil))) (eC (.int (3)))))
    (gSeq (sFor (gtN 8) (iAnyM (eV 2)) (sFor (gtN 9) (iAnyM (eV 1)) (sFor (gtN 10) (iRng (eBin addD (eC (.int (1))) (eBin mulD (eBin modD (eFrz (eCallC F__law_draw (aCons (eV 0) aNil))) (eC (.int (2)))) (eCd lenG (aCons (eV 5) aNil))))) (gSeq (sSet 11 (eSl (eTup (aCons (eTup (aCons (eC (.str "t")) (aCons (eBin modD (eFrz (eCallC F__law_draw (aCons (eV 0) aNil))) (eC (.int (2)))) (aCons (eBin addD (eC (.int (1))) (eBin modD (eFrz (eCallC F__law_draw (aCons (eV 0) aNil))) (eC (.int (2))))) aNil)))) aNil)) oNone (oSome (eBin mulD (eCd lenG (aCons (eV 5) aNil)) (eBin subD (eC (.int (1))) (eV 10))))))
          (gSeq (sSet 12 (eSl (eTup (aCons (eTup (aCons (eC (.str "t")) (aCons (eBin ixD (eFrz (eLst (aCons (eC (.int (1))) (aCons (eC (.int (1))) (aCons (eNeg (eC (.int (1)))) (aCons (eC (.int (2))) (aCons (eC (.int (0))) aNil))))))) (eBin modD (eFrz (eCallC F__law_draw (aCons (eV 0) aNil))) (eC (.int (5))))) aNil))) aNil)) oNone (oSome (eCd lenG (aCons (eV 5) aNil)))))
          (gSeq (sSet 13 (eIf (op2 gtD (eV 7) (eC (.int (0)))) (eBin ixD (eV 2) (eBin modD (eFrz (eCallC F__law_draw (aCons (eV 0) aNil))) (eCd lenG (aCons (eV 2) aNil)))) (eV 8)))
          (gSeq (sSet 14 (eIf (op2 ltD (eV 7) (eC (.int (2)))) (eBin ixD (eFrz (eLst (aCons (eC (.int (0))) (aCons (eC (.int (0))) (aCons (eC (.int (5))) (aCons (eNeg (eC (.int (3)))) aNil)))))) (eBin modD (eFrz (eCallC F__law_draw (aCons (eV 0) aNil))) (eC (.int (4))))) (eC (.int (0)))))
          (sIf (op2 gtD (eBin modD (eFrz (eCallC F__law_draw (aCons (eV 0) aNil))) (eC (.int (6)))) (eC (.int (0)))) (sExp (eMt appG (eV 6) (aCons (eTup (aCons (eV 8) (aCons (eBin ixD (eV 9) (eC (.int (0)))) (aCons (eV 11) (aCons (eV 13) (aCons (eV 12) (aCons (eV 14) aNil))))))) aNil))) gNil))))))))
    (sRet (eRv (eTup (aCons (eC (.str "rule")) (aCons (eC (.str "r")) (aCons (eBin ixD (eFrz (eLst (aCons (eC (.str "told")) (aCons (eC (.str "date")) aNil)))) (eBin modD (eFrz (eCallC F__law_draw (aCons (eV 0) aNil))) (eC (.int (2))))) (aCons (eV 1) (aCons (eV 4) (aCons (eV 5) (aCons (eCd tupleG (aCons (eV 6) aNil)) aNil))))))))))))))))))
def F__law_rule : List S → M Rv := runG 14 B__law_rule
def B__law_is_number : G :=
    (sRet (eRv (eAndM (eIsa "int" (eV 0)) (eAndM (eNotM (eIsa "bool" (eV 0))) (eChn leD leD (eV 1) (eV 0) (eV 2))))))
def F__law_is_number : List S → M Rv := runG 0 B__law_is_number
def B__law_is_name : G :=
    (gSeq (sIf (tOrM (tNotM (tT (eIsa "str" (eV 0)))) (tOrM (tNotM (tChn leD leD (eC (.int (1))) (eCd lenG (aCons (eV 0) aNil)) (eC (.int (8))))) (op2 ninD (eBin ixD (eV 0) (eC (.int (0)))) (eC (.str "abcdefghijklmnopqrstuvwxyz"))))) (sRet (eRv (eC (.bool false)))) gNil)
    (sRet (eRv (eCmp eqD (eCd lenG (aCons (eFrz (eLc (iAnyM (eV 0)) (gtN 1) (op2 ninD (eV 1) (eC (.str "abcdefghijklmnopqrstuvwxyz0123456789"))) (eV 1) [1])) aNil)) (eC (.int (0)))))))
def F__law_is_name : List S → M Rv := runG 1 B__law_is_name
def B__law_is_condition : G :=
    (gSeq (sIf (tOrM (tNotM (tT (eIsa "tuple" (eV 0)))) (tOrM (op2 ltD (eCd lenG (aCons (eV 0) aNil)) (eC (.int (1)))) (tNotM (tT (eIsa "str" (eBin ixD (eV 0) (eC (.int (0))))))))) (sRet (eRv (eC (.bool false)))) gNil)
    (gSeq (sIf (op2 eqD (eBin ixD (eV 0) (eC (.int (0)))) (eC (.str "always"))) (sRet (eRv (eCmp eqD (eCd lenG (aCons (eV 0) aNil)) (eC (.int (1)))))) gNil)
    (gSeq (sIf (op2 eqD (eBin ixD (eV 0) (eC (.int (0)))) (eC (.str "day"))) (sRet (eRv (eAndM (eCmp eqD (eCd lenG (aCons (eV 0) aNil)) (eC (.int (3)))) (eAndM (eFrz (eCall F__law_is_number (aCons (eBin ixD (eV 0) (eC (.int (1)))) (aCons (eC (.int (0))) (aCons (eC (.int (36500))) aNil))))) (eAndM (eFrz (eCall F__law_is_number (aCons (eBin ixD (eV 0) (eC (.int (2)))) (aCons (eC (.int (0))) (aCons (eC (.int (36500))) aNil))))) (eCmp leD (eBin ixD (eV 0) (eC (.int (1)))) (eBin ixD (eV 0) (eC (.int (2)))))))))) gNil)
    (gSeq (sIf (tOrM (op2 ninD (eBin ixD (eV 0) (eC (.int (0)))) (eTup (aCons (eC (.str "peril")) (aCons (eC (.str "place")) (aCons (eC (.str "object")) aNil))))) (tNotM (tChn leD leD (eC (.int (2))) (eCd lenG (aCons (eV 0) aNil)) (eC (.int (13)))))) (sRet (eRv (eC (.bool false)))) gNil)
    (sRet (eRv (eCmp eqD (eCd lenG (aCons (eFrz (eLc (iAnyM (eSl (eV 0) (oSome (eC (.int (1)))) oNone)) (gtN 1) (tNotM (tT (eFrz (eCall F__law_is_name (aCons (eV 1) aNil))))) (eV 1) [1])) aNil)) (eC (.int (0))))))))))
def F__law_is_condition : List S → M Rv := runG 1 B__law_is_condition
def B__law_are_pairs : G :=
    (gSeq (sIf (tOrM (tNotM (tT (eIsa "tuple" (eV 0)))) (tNotM (tChn leD leD (eV 1) (eCd lenG (aCons (eV 0) aNil)) (eV 2)))) (sRet (eRv (eC (.bool false)))) gNil)
    (gSeq (sNew 3 (eLst aNil))
    (gSeq (sFor (gtN 4) (iAnyM (eV 0)) (gSeq (sIf (tOrM (tNotM (tT (eIsa "tuple" (eV 4)))) (tOrM (op2 neD (eCd lenG (aCons (eV 4) aNil)) (eC (.int (2)))) (tNotM (tT (eFrz (eCall F__law_is_name (aCons (eBin ixD (eV 4) (eC (.int (0)))) aNil))))))) (sRet (eRv (eC (.bool false)))) gNil)
      (sExp (eMt appG (eV 3) (aCons (eBin ixD (eV 4) (eC (.int (0)))) aNil)))))
    (sRet (eRv (eCmp eqD (eCd lenSetG (aCons (eV 3) aNil)) (eCd lenG (aCons (eV 3) aNil))))))))
def F__law_are_pairs : List S → M Rv := runG 2 B__law_are_pairs
def B__law_is_step : G :=
    (gSeq (sIf (tOrM (tNotM (tT (eIsa "tuple" (eV 0)))) (tOrM (op2 neD (eCd lenG (aCons (eV 0) aNil)) (eC (.int (6)))) (tOrM (tNotM (tT (eIsa "tuple" (eBin ixD (eV 0) (eC (.int (2))))))) (tNotM (tT (eIsa "tuple" (eBin ixD (eV 0) (eC (.int (4)))))))))) (sRet (eRv (eC (.bool false)))) gNil)
    (gSeq (sFor (gtT (gtsCons (gtN 4) (gtsCons (gtN 5) gtsNil))) (iAnyM (eFrz (eLst (aCons (eTup (aCons (eBin ixD (eV 0) (eC (.int (0)))) (aCons (eV 1) aNil))) (aCons (eTup (aCons (eBin ixD (eV 0) (eC (.int (1)))) (aCons (eV 2) aNil))) (aCons (eTup (aCons (eBin ixD (eV 0) (eC (.int (3)))) (aCons (eV 1) aNil))) aNil)))))) (sIf (tOrM (tNotM (tT (eFrz (eCall F__law_is_name (aCons (eV 4) aNil))))) (op2 ninD (eV 4) (eV 5))) (sRet (eRv (eC (.bool false)))) gNil))
    (gSeq (sFor (gtN 6) (iAnyM (eBin ixD (eV 0) (eC (.int (2))))) (gSeq (sIf (tOrM (tNotM (tT (eIsa "tuple" (eV 6)))) (tOrM (op2 neD (eCd lenG (aCons (eV 6) aNil)) (eC (.int (3)))) (tOrM (tNotM (tT (eFrz (eCall F__law_is_name (aCons (eBin ixD (eV 6) (eC (.int (0)))) aNil))))) (op2 ninD (eBin ixD (eV 6) (eC (.int (0)))) (eV 3))))) (sRet (eRv (eC (.bool false)))) gNil)
      (sIf (tOrM (tNotM (tT (eFrz (eCall F__law_is_number (aCons (eBin ixD (eV 6) (eC (.int (1)))) (aCons (eC (.int (0))) (aCons (eC (.int (40))) aNil))))))) (tNotM (tT (eFrz (eCall F__law_is_number (aCons (eBin ixD (eV 6) (eC (.int (2)))) (aCons (eC (.int (0))) (aCons (eC (.int (40))) aNil)))))))) (sRet (eRv (eC (.bool false)))) gNil)))
    (gSeq (sIf (tNotM (tT (eFrz (eCall F__law_are_pairs (aCons (eBin ixD (eV 0) (eC (.int (4)))) (aCons (eC (.int (0))) (aCons (eC (.int (3))) aNil))))))) (sRet (eRv (eC (.bool false)))) gNil)
    (gSeq (sFor (gtT (gtsCons (gtN 4) (gtsCons (gtN 7) gtsNil))) (iAnyM (eBin ixD (eV 0) (eC (.int (4))))) (sIf (tOrM (op2 ninD (eV 4) (eV 3)) (tNotM (tT (eFrz (eCall F__law_is_number (aCons (eV 7) (aCons (eNeg (eC (.int (40)))) (aCons (eC (.int (40))) aNil)))))))) (sRet (eRv (eC (.bool false)))) gNil))
    (sRet (eCall F__law_is_number (aCons (eBin ixD (eV 0) (eC (.int (5)))) (aCons (eNeg (eBin powD (eC (.int (10))) (eC (.int (9))))) (aCons (eBin powD (eC (.int (10))) (eC (.int (9)))) aNil))))))))))
def F__law_is_step : List S → M Rv := runG 4 B__law_is_step
def B__law_is_rule : G :=
    (gSeq (sIf (tOrM (tNotM (tT (eIsa "tuple" (eV 0)))) (tOrM (op2 neD (eCd lenG (aCons (eV 0) aNil)) (eC (.int (7)))) (tOrM (tNotM (tT (eIsa "str" (eBin ixD (eV 0) (eC (.int (0))))))) (op2 neD (eBin ixD (eV 0) (eC (.int (0)))) (eC (.str "rule")))))) (sRet (eRv (eC (.bool false)))) gNil)
    (gSeq (sIf (tOrM (tNotM (tT (eFrz (eCall F__law_is_name (aCons (eBin ixD (eV 0) (eC (.int (1)))) aNil))))) (tOrM (tNotM (tT (eIsa "str" (eBin ixD (eV 0) (eC (.int (2))))))) (op2 ninD (eBin ixD (eV 0) (eC (.int (2)))) (eTup (aCons (eC (.str "told")) (aCons (eC (.str "date")) aNil)))))) (sRet (eRv (eC (.bool false)))) gNil)
    (gSeq (sIf (tOrM (tNotM (tT (eFrz (eCall F__law_are_pairs (aCons (eBin ixD (eV 0) (eC (.int (3)))) (aCons (eC (.int (1))) (aCons (eC (.int (12))) aNil))))))) (tOrM (tNotM (tT (eFrz (eCall F__law_are_pairs (aCons (eBin ixD (eV 0) (eC (.int (4)))) (aCons (eC (.int (1))) (aCons (eC (.int (40))) aNil))))))) (tNotM (tT (eFrz (eCall F__law_are_pairs (aCons (eBin ixD (eV 0) (eC (.int (5)))) (aCons (eC (.int (0))) (aCons (eC (.int (3))) aNil))))))))) (sRet (eRv (eC (.bool false)))) gNil)
    (gSeq (sIf (tOrM (op2 gtD (eCd lenG (aCons (eFrz (eLc (iAnyM (eBin ixD (eV 0) (eC (.int (3))))) (gtN 2) (tNotM (tT (eFrz (eCall F__law_is_condition (aCons (eBin ixD (eV 2) (eC (.int (1)))) aNil))))) (eC (.int (1))) [2])) aNil)) (eC (.int (0)))) (op2 gtD (eCd lenG (aCons (eFrz (eLc (iAnyM (eBin ixD (eV 0) (eC (.int (4))))) (gtN 2) (tNotM (tT (eFrz (eCall F__law_is_name (aCons (eBin ixD (eV 2) (eC (.int (1)))) aNil))))) (eC (.int (1))) [2])) aNil)) (eC (.int (0))))) (sRet (eRv (eC (.bool false)))) gNil)
    (gSeq (sIf (tOrM (op2 gtD (eCd lenG (aCons (eFrz (eLc (iAnyM (eBin ixD (eV 0) (eC (.int (5))))) (gtN 2) (tNotM (tT (eFrz (eCall F__law_is_number (aCons (eBin ixD (eV 2) (eC (.int (1)))) (aCons (eC (.int (1))) (aCons (eC (.int (40))) aNil))))))) (eC (.int (1))) [2])) aNil)) (eC (.int (0)))) (tOrM (tNotM (tT (eIsa "tuple" (eBin ixD (eV 0) (eC (.int (6))))))) (op2 gtD (eCd lenG (aCons (eBin ixD (eV 0) (eC (.int (6)))) aNil)) (eC (.int (200)))))) (sRet (eRv (eC (.bool false)))) gNil)
    (gSeq (sSet 1 (eFrz (eLc (iAnyM (eTup (aCons (eC (.int (4))) (aCons (eC (.int (3))) (aCons (eC (.int (5))) aNil))))) (gtN 3) tYesM (eFrz (eLc (iAnyM (eBin ixD (eV 0) (eV 3))) (gtN 2) tYesM (eBin ixD (eV 2) (eC (.int (0)))) [2])) [3])))
    (sRet (eRv (eCmp eqD (eCd lenG (aCons (eFrz (eLc (iAnyM (eBin ixD (eV 0) (eC (.int (6))))) (gtN 4) (tNotM (tT (eFrz (eCall F__law_is_step (aCons (eV 4) (aCons (eBin ixD (eV 1) (eC (.int (0)))) (aCons (eBin ixD (eV 1) (eC (.int (1)))) (aCons (eBin ixD (eV 1) (eC (.int (2)))) aNil)))))))) (eC (.int (1))) [4])) aNil)) (eC (.int (0))))))))))))
def F__law_is_rule : List S → M Rv := runG 4 B__law_is_rule
def B__law_put (f__law_put : List S → M Rv) : G :=
    (gSeq (sSet 3 (eBin ixD (eV 1) (eC (.int (0)))))
    (gSeq (sSet 4 (eIf (op2 eqD (eCd lenG (aCons (eV 1) aNil)) (eC (.int (1)))) (eV 2) (eFrz (eCall f__law_put (aCons (eBin ixD (eV 0) (eV 3)) (aCons (eSl (eV 1) (oSome (eC (.int (1)))) oNone) (aCons (eV 2) aNil)))))))
    (sRet (eRv (eBin addD (eBin addD (eSl (eV 0) oNone (oSome (eV 3))) (eTup (aCons (eV 4) aNil))) (eSl (eV 0) (oSome (eBin addD (eV 3) (eC (.int (1))))) oNone))))))
def F__law_put : Nat → List S → M Rv
  | 0 => F0
  | n + 1 => runG 2 (B__law_put (F__law_put n))
def B__law_place : G :=
    (gSeq (sNew 2 (eLst aNil))
    (gSeq (sFor (gtN 3) (iRng (eC (.int (6)))) (sIf (tAndM (tT (eIsa "tuple" (eV 1))) (tAndM (op2 gtD (eCd lenG (aCons (eV 1) aNil)) (eC (.int (0)))) (tOrM (op2 eqD (eV 3) (eC (.int (0)))) (op2 gtD (eBin modD (eFrz (eCallC F__law_draw (aCons (eV 0) aNil))) (eC (.int (4)))) (eC (.int (0))))))) (gSeq (sExp (eMt appG (eV 2) (aCons (eBin modD (eFrz (eCallC F__law_draw (aCons (eV 0) aNil))) (eCd lenG (aCons (eV 1) aNil))) aNil)))
        (sSet 1 (eBin ixD (eV 1) (eBin ixD (eV 2) (eBin subD (eCd lenG (aCons (eV 2) aNil)) (eC (.int (1)))))))) gNil))
    (sRet (eRv (eV 2)))))
def F__law_place : List S → M Rv := runG 2 B__law_place
def B__law_spoilt : G :=
    (gSeq (sSet 2 (eFrz (eLst (aCons (eC .none) (aCons (eC (.bool true)) (aCons (eC (.int (41))) (aCons (eC (.int (0))) (aCons (eNeg (eC (.int (41)))) (aCons (eBin addD (eBin powD (eC (.int (10))) (eC (.int (9)))) (eC (.int (1)))) (aCons (eC (.str "s9")) (aCons (eC (.str "A")) (aCons (eC (.str "")) (aCons (eTup aNil) (aCons (eFrz (eLst aNil)) (aCons (eC (.str "t")) (aCons (eC (.str "toolonger")) (aCons (eTup (aCons (eC (.str "noticed")) (aCons (eC (.int (5))) aNil))) (aCons (eTup (aCons (eC (.str "peril")) aNil)) (aCons (eTup (aCons (eC (.str "day")) (aCons (eC (.int (5))) (aCons (eC (.int (4))) aNil)))) (aCons (eTup (aCons (eC (.str "x")) (aCons (eC (.int (0))) (aCons (eC (.int (0))) aNil)))) (aCons (eTup (aCons (eTup (aCons (eC (.str "t")) (aCons (eC (.int (1))) aNil))) (aCons (eTup (aCons (eC (.str "t")) (aCons (eC (.int (1))) aNil))) aNil))) aNil)))))))))))))))))))))
    (gSeq (sSet 3 (eBin modD (eFrz (eCallC F__law_draw (aCons (eV 0) aNil))) (eC (.int (9)))))
    (gSeq (sIf (op2 eqD (eV 3) (eC (.int (0)))) (gSeq (sSet 4 (eBin addD (eC (.int (3))) (eBin modD (eFrz (eCallC F__law_draw (aCons (eV 0) aNil))) (eC (.int (3))))))
      (sRet (eCall (F__law_put 12) (aCons (eV 1) (aCons (eFrz (eLst (aCons (eV 4) aNil))) (aCons (eBin addD (eBin ixD (eV 1) (eV 4)) (eSl (eBin ixD (eV 1) (eV 4)) oNone (oSome (eC (.int (1)))))) aNil)))))) gNil)
    (gSeq (sIf (op2 eqD (eV 3) (eC (.int (1)))) (sRet (eCall (F__law_put 12) (aCons (eV 1) (aCons (eFrz (eLst (aCons (eC (.int (6))) aNil))) (aCons (eBin mulE (eBin ixD (eV 1) (eC (.int (6)))) (eC (.int (201)))) aNil))))) gNil)
    (gSeq (sIf (op2 eqD (eV 3) (eC (.int (2)))) (sRet (eRv (eBin ixD (eFrz (eLst (aCons (eCd listG (aCons (eV 1) aNil)) (aCons (eBin addD (eV 1) (eTup (aCons (eC (.int (0))) aNil))) (aCons (eSl (eV 1) oNone (oSome (eC (.int (6))))) (aCons (eC .none) (aCons (eC (.str "rule")) aNil))))))) (eBin modD (eFrz (eCallC F__law_draw (aCons (eV 0) aNil))) (eC (.int (5))))))) gNil)
    (gSeq (sIf (op2 eqD (eV 3) (eC (.int (3)))) (sRet (eCall (F__law_put 12) (aCons (eV 1) (aCons (eFrz (eLst (aCons (eC (.int (4))) aNil))) (aCons (eCd tupleG (aCons (eFrz (eLc (iRng (eBin addD (eC (.int (40))) (eBin modD (eFrz (eCallC F__law_draw (aCons (eV 0) aNil))) (eC (.int (2)))))) (gtN 5) tYesM (eTup (aCons (eBin addD (eC (.str "s")) (eCd strG (aCons (eV 5) aNil))) (aCons (eC (.str "red")) aNil))) [5])) aNil)) aNil))))) gNil)
    (sRet (eCall (F__law_put 12) (aCons (eV 1) (aCons (eFrz (eCallC F__law_place (aCons (eV 0) (aCons (eV 1) aNil)))) (aCons (eBin ixD (eV 2) (eBin modD (eFrz (eCallC F__law_draw (aCons (eV 0) aNil))) (eCd lenG (aCons (eV 2) aNil)))) aNil)))))))))))
def F__law_spoilt : List S → M Rv := runG 4 B__law_spoilt
def B__law_told (K : PySem.W.Frag) : G :=
    (gSeq (sTry 1 exKnown exSub_BadRule (fun c a => (gSeq (sSet 2 (eFrz (eLst (aCons (eIsE 1 a (exSub_BadArgument c)) (aCons (eIsE 1 a (exSub_BadWords c)) (aCons (eIsE 1 a (exSub_BadTreaty c)) (aCons (eIsE 1 a (exSub_BadForm c)) (aCons (eIsE 1 a (exSub_TooLarge c)) aNil))))))))
      (sRet (eRv (eIf (tAndM (tT (eIsE 1 a (exSub_WhatbefellError c))) (op2 ninD (eC (.bool true)) (eV 2))) (eFrz (eLst (aCons (eC (.str "refused")) aNil))) (eFrz (eLst (aCons (eC (.str "")) aNil)))))))) (sExp (eFrz (eCall (F_check_rule K) (aCons (eV 0) aNil)))))
    (sRet (eLst (aCons (eC (.str "taken")) aNil))))
def F__law_told (K : PySem.W.Frag) : List S → M Rv := runG 2 (B__law_told K)
def B_law (K : PySem.W.Frag) : G :=
    (gSeq (sNew 1 (eLst (aCons (eFrz (eCall F__law_numbers (aCons (eV 0) aNil))) (aCons (eC (.int (0))) aNil))))
    (gSeq (sSet 2 (eFrz (eCallC F__law_rule (aCons (eV 1) aNil))))
    (gSeq (sIf (tNotM (op1 isnD (eFrz (eCall (F_check_rule K) (aCons (eV 2) aNil))))) (sRet (eRv (eC (.bool false)))) gNil)
    (gSeq (sFor (gtN 3) (iRng (eC (.int (8)))) (gSeq (sSet 4 (eFrz (eCallC F__law_spoilt (aCons (eV 1) (aCons (eV 2) aNil)))))
      (sIf (op2 neD (eFrz (eCall (F__law_told K) (aCons (eV 4) aNil))) (eBin ixD (eFrz (eLst (aCons (eFrz (eLst (aCons (eC (.str "refused")) aNil))) (aCons (eFrz (eLst (aCons (eC (.str "taken")) aNil))) aNil)))) (eCd intG (aCons (eFrz (eCall F__law_is_rule (aCons (eV 4) aNil))) aNil)))) (sRet (eRv (eC (.bool false)))) gNil)))
    (sRet (eRv (eC (.bool true))))))))
def F_law (K : PySem.W.Frag) : List S → M Rv := runG 4 (B_law K)
end
end Law

set_option Elab.async false
set_option linter.all false
set_option maxRecDepth 100000
set_option maxHeartbeats 1000000
namespace Law
open PySem L2 Dn
/-! data whose texts keep p -/
mutual
def dAll (p : Str → Bool) : D → Bool
  | .str x => p x
  | .list xs => dAlls p xs
  | .tuple xs => dAlls p xs
  | .dict _ => false
  | _ => true
def dAlls (p : Str → Bool) : List D → Bool
  | [] => true
  | x :: xs => dAll p x && dAlls p xs
end
theorem dAlls_iff {p : Str → Bool} : ∀ {xs : List D}, dAlls p xs = true ↔ ∀ x ∈ xs, dAll p x = true
  | [] => by simp [dAlls]
  | x :: xs => by simp [dAlls, dAlls_iff (xs := xs)]
def txOk (x : Str) : Bool := decide (x.length ≤ 1000) && PyData.strOk x
/-- plain data: short texts, not deep, no dict -/
structure Sane (p : Str → Bool) (d : D) : Prop where
  a : dAll (fun x => txOk x && p x) d = true
  d : d.depth ≤ 60
mutual
theorem lay_of {p : Str → Bool} : ∀ d : D, dAll (fun x => txOk x && p x) d = true → d.canLay0 = true
  | .none, _ => by simp [PyData.canLay0]
  | .bool _, _ => by simp [PyData.canLay0]
  | .int _, _ => by simp [PyData.canLay0]
  | .str x, h => by simp [dAll, txOk] at h; simp [PyData.canLay0, h]
  | .list xs, h => by simp only [PyData.canLay0]; exact lays_of xs (by simpa [dAll] using h)
  | .tuple xs, h => by simp only [PyData.canLay0]; exact lays_of xs (by simpa [dAll] using h)
  | .dict _, h => by simp [dAll] at h
theorem lays_of {p : Str → Bool} : ∀ xs : List D, dAlls (fun x => txOk x && p x) xs = true → PyData.canLayAll0 xs = true
  | [], _ => by simp [PyData.canLayAll0]
  | x :: xs, h => by
    simp only [dAlls, Bool.and_eq_true] at h
    simp only [PyData.canLayAll0, Bool.and_eq_true]
    exact ⟨lay_of x h.1, lays_of xs h.2⟩
end
theorem dep_mem : ∀ {xs : List D} {x : D}, x ∈ xs → x.depth ≤ PyData.depthAll xs
  | y :: ys, x, h => by
    simp only [PyData.depthAll]
    rcases List.mem_cons.1 h with h | h
    · subst h; exact Nat.le_max_left _ _
    · exact Nat.le_trans (dep_mem h) (Nat.le_max_right _ _)
theorem dep_le {n : Nat} : ∀ {xs : List D}, (∀ x ∈ xs, x.depth ≤ n) → PyData.depthAll xs ≤ n
  | [], _ => by simp [PyData.depthAll]
  | y :: ys, h => by
    simp only [PyData.depthAll]
    exact Nat.max_le.2 ⟨h y (by simp), dep_le fun x hx => h x (by simp [hx])⟩
section
variable {p : Str → Bool} {d x : D} {xs ys : List D}
theorem Sane.sh (h : Sane p d) : SeqAt.shaped d = true := by
  have := h.d
  simp [SeqAt.shaped, lay_of d h.a]; omega
theorem Sane.mem (h : Sane p (.tuple xs)) (m : x ∈ xs) : Sane p x := by
  have a := h.a
  have b := h.d
  simp only [dAll] at a
  simp only [PyData.depth] at b
  have := dep_mem m
  exact ⟨dAlls_iff.1 a x m, by omega⟩
theorem Sane.memL (h : Sane p (.list xs)) (m : x ∈ xs) : Sane p x := by
  have a := h.a
  have b := h.d
  simp only [dAll] at a
  simp only [PyData.depth] at b
  have := dep_mem m
  exact ⟨dAlls_iff.1 a x m, by omega⟩
theorem sane_of {n : Nat} (hn : n + 1 ≤ 60) (h : ∀ x ∈ xs, Sane p x ∧ x.depth ≤ n) : Sane p (.tuple xs) ∧ Sane p (.list xs) := by
  have a : dAlls (fun x => txOk x && p x) xs = true := dAlls_iff.2 fun x hx => (h x hx).1.a
  have b := dep_le fun x hx => (h x hx).2
  exact ⟨⟨by simpa only [dAll] using a, by simp only [PyData.depth]; omega⟩, ⟨by simpa only [dAll] using a, by simp only [PyData.depth]; omega⟩⟩
theorem Sane.sub (h : Sane p (.tuple xs)) (m : ∀ x ∈ ys, x ∈ xs) : Sane p (.tuple ys) ∧ Sane p (.list ys) := by
  have b := h.d
  simp only [PyData.depth] at b
  exact sane_of (n := PyData.depthAll xs) (by omega) fun x hx => ⟨h.mem (m x hx), dep_mem (m x hx)⟩
theorem Sane.subL (h : Sane p (.list xs)) (m : ∀ x ∈ ys, x ∈ xs) : Sane p (.tuple ys) ∧ Sane p (.list ys) := by
  have b := h.d
  simp only [PyData.depth] at b
  exact sane_of (n := PyData.depthAll xs) (by omega) fun x hx => ⟨h.memL (m x hx), dep_mem (m x hx)⟩
theorem Sane.str {x : Str} (h : Sane p (.str x)) : x.length ≤ 1000 ∧ PyData.strOk x = true ∧ p x = true := by
  have a := h.a
  simp [dAll, txOk] at a
  exact ⟨a.1.1, a.1.2, a.2⟩
theorem Sane.int {i : Int} : Sane p (.int i) := ⟨by simp [dAll], by simp [PyData.depth]⟩
theorem Sane.none : Sane p .none := ⟨by simp [dAll], by simp [PyData.depth]⟩
theorem Sane.bool {b : Bool} : Sane p (.bool b) := ⟨by simp [dAll], by simp [PyData.depth]⟩
theorem eq_nil (h : SeqAt.shaped (.list xs) = true) : eqD (.list xs) (.list []) = some xs.isEmpty := by
  rw [eqD_sh h (by decide)]
  cases xs <;> simp [PyData.eqv, PyData.eqvAll]
end
/-! numbers and names -/
def isNum (d : D) (a b : Int) : Bool := match d with
  | .int x => decide (a ≤ x) && decide (x ≤ b)
  | _ => false
theorem is_number_ (d : D) (a b : Int) : F_is_number [.d d, .d (.int a), .d (.int b)] [] = .ok (.d (.bool (isNum d a b))) [] := by
  cases d with
  | int x =>
    simp [F_is_number, B_is_number, isNum]
    by_cases h : a ≤ x <;> simp [h]
  | _ => simp [F_is_number, B_is_number, isaD, isNum]
def lets : List Nat := ("abcdefghijklmnopqrstuvwxyz" : Str).cps.toList
def figs : List Nat := ("0123456789" : Str).cps.toList
def isName (d : D) : Bool := match d with
  | .str x => match x.cps.toList with
    | [] => false
    | c :: r => decide (r.length ≤ 7) && (decide (c ∈ lets) && (c :: r).all fun k => decide (k ∈ lets) || decide (k ∈ figs))
  | _ => false
theorem len_cps (x : Str) : x.length = x.cps.toList.length := by
  show x.cps.size = _
  simp
theorem ix_str {x : Str} {c : Nat} {r : List Nat} (h : x.cps.toList = c :: r) (hl : x.length ≤ 1000) : ixD (.str x) (.int 0) = some (chD c) := by
  show (if x.length ≤ sizeLine then (atI x.cps.toList 0).map fun c => PyData.str ⟨#[c]⟩ else none) = _
  rw [if_pos (size_ok (by omega)), h, atI0]; rfl
theorem len_str {x : Str} (hl : x.length ≤ 1000) : lenG [.str x] = some (.int x.length) := by
  have h : x.length ≤ sizeLine := size_ok (by omega)
  simp [lenG, lenD, h]
theorem ch_shaped {l : List Nat} (h : ∀ c ∈ l, c < 0x110000) : SeqAt.shaped (.list (l.map chD)) = true := by
  have a : PyData.canLayAll0 (l.map chD) = true ∧ PyData.depthAll (l.map chD) = 0 := by
    induction l with
    | nil => simp [PyData.canLayAll0, PyData.depthAll]
    | cons c l ih =>
      have := ih fun k hk => h k (by simp [hk])
      have hc := h c (by simp)
      simp [PyData.canLayAll0, PyData.depthAll, this, chD, PyData.canLay0, PyData.strOk, PyData.depth, hc]
  simp [SeqAt.shaped, PyData.canLay0, PyData.depth, a]
theorem isa_other {T : String} {d : D} (h : isaD T d = false) : isaD T d = false := h
theorem is_name_ {p : Str → Bool} {d : D} (h : Sane p d) : F_is_name [.d d] [] = .ok (.d (.bool (isName d))) [] := by
  cases d with
  | str x =>
    obtain ⟨h1, h2, _⟩ := h.str
    have hl := len_cps x
    have l1 := len_str h1
    cases e : x.cps.toList with
    | nil =>
      rw [e] at hl
      simp at hl
      simp [F_is_name, B_is_name, l1, hl, isName, e]
    | cons c r =>
      rw [e] at hl
      simp only [List.length_cons] at hl
      have i1 := ix_str e h1
      by_cases q1 : r.length ≤ 7
      · have q2 : (x.length : Int) ≤ 8 := by omega
        have q3 : (1 : Int) ≤ x.length := by omega
        by_cases q4 : c ∈ lets
        · have q5 : c ∈ ("abcdefghijklmnopqrstuvwxyz" : Str).cps.toList := q4
          have lc := lcL_pure (cs := []) (tg := gtN 1) (t := tAndM (op2 ninD (eV 1) (eC (.str "abcdefghijklmnopqrstuvwxyz"))) (op2 ninD (eV 1) (eC (.str "0123456789")))) (f := eV 1) (ρ := [.d (.str x), .no])
            (fun y => [.d (.str x), .d y]) (fun y => match y with
              | .str z => !(decide (z.cps.getD 0 0 ∈ lets)) && !(decide (z.cps.getD 0 0 ∈ figs))
              | _ => false) id (x.cps.toList.map chD) [] (by
              intro y hy
              obtain ⟨k, hk, rfl⟩ := List.mem_map.1 hy
              refine ⟨rfl, ?_, fun _ => by simp⟩
              have n1 : inD (chD k) (.str "abcdefghijklmnopqrstuvwxyz") = some (decide (k ∈ lets)) := inD_ch _ _
              have n2 : inD (chD k) (.str "0123456789") = some (decide (k ∈ figs)) := inD_ch _ _
              have n3 : (chD k) = .str ⟨#[k]⟩ := rfl
              by_cases w1 : k ∈ lets <;> simp [n1, n2, w1, ninD_eq, n3] <;> simp [← n3, n1, n2, w1]) (by simp [e]; exact size_ok (by omega))
          have ef : ((x.cps.toList.map chD).filter fun y => match y with
              | .str z => !(decide (z.cps.getD 0 0 ∈ lets)) && !(decide (z.cps.getD 0 0 ∈ figs))
              | _ => false).map id = (x.cps.toList.filter fun k => !(decide (k ∈ lets)) && !(decide (k ∈ figs))).map chD := by
            rw [List.filter_map, List.map_id]; rfl
          rw [List.nil_append, ef] at lc
          have sh := ch_shaped (l := x.cps.toList.filter fun k => !(decide (k ∈ lets)) && !(decide (k ∈ figs))) (by
            intro k hk
            have hm := (List.mem_filter.1 hk).1
            unfold PyData.strOk at h2
            rw [Array.all_eq_true_iff_forall_mem] at h2
            exact of_decide_eq_true (h2 k (Array.mem_toList_iff.1 hm)))
          have en := eq_nil sh
          have ee : (c :: r).all (fun k => decide (k ∈ lets) || decide (k ∈ figs)) = ((x.cps.toList.filter fun k => !(decide (k ∈ lets)) && !(decide (k ∈ figs))).map chD).isEmpty := by
            rw [e]
            rw [Bool.eq_iff_iff]
            simp [List.filter_eq_nil_iff, Classical.or_iff_not_imp_left]
            refine ⟨fun h a ha hl => ?_, fun h => ⟨fun hl => h c (fun z => absurd rfl z) hl, fun y hy => h y (fun _ => hy)⟩⟩
            by_cases q : a = c
            · subst q; exact h.1 hl
            · exact h.2 a (ha q) hl
          generalize (x.cps.toList.filter fun k => !(decide (k ∈ lets)) && !(decide (k ∈ figs))).map chD = fl at *
          rw [e, List.map_cons] at lc
          have q6 : isName (.str x) = fl.isEmpty := by
            show (match x.cps.toList with
              | [] => false
              | c :: r => decide (r.length ≤ 7) && (decide (c ∈ lets) && (c :: r).all fun k => decide (k ∈ lets) || decide (k ∈ figs))) = _
            rw [e]
            simp only [ee, q1, q4, decide_true, Bool.true_and]
          rw [q6]
          simp [F_is_name, B_is_name, l1, i1, q2, q3, q5, lc, en, ninD_eq, e]
        · have q5 : ¬ c ∈ ("abcdefghijklmnopqrstuvwxyz" : Str).cps.toList := q4
          simp [F_is_name, B_is_name, l1, i1, q2, q3, q5, isName, e, q4, ninD_eq]
      · have q2 : ¬ (x.length : Int) ≤ 8 := by omega
        have q3 : (1 : Int) ≤ x.length := by omega
        simp [F_is_name, B_is_name, l1, i1, q2, q3, isName, e, q1]
  | _ => simp [F_is_name, B_is_name, isaD, isName]
theorem is_day_ (d : D) : F_is_day [.d d] [] = .ok (.d (.bool (isNum d 0 36500))) [] := by
  simp [F_is_day, B_is_day, is_number_]
/-- a tuple of so many -/
def isTup (d : D) (a b : Int) : Bool := match d with
  | .tuple xs => decide (a ≤ (xs.length : Int)) && decide ((xs.length : Int) ≤ b)
  | _ => false
theorem is_tuple_ (d : D) (a b : Int) : F_is_tuple [.d d, .d (.int a), .d (.int b)] [] = .ok (.d (.bool (isTup d a b))) [] := by
  cases d with
  | tuple xs =>
    simp [F_is_tuple, B_is_tuple, isTup]
    by_cases h : a ≤ (xs.length : Int) <;> simp [h]
  | _ => simp [F_is_tuple, B_is_tuple, isaD, isTup]
/-- texts -/
def txts : List D → Option (List Str)
  | [] => some []
  | .str x :: r => (txts r).map (x :: ·)
  | _ => none
def unl : List Str → Bool
  | [] => true
  | x :: r => !(decide (x ∈ r)) && unl r
theorem kysD_str : ∀ xs : List Str, kysD (xs.map .str) = some (xs.map Sum.inr)
  | [] => rfl
  | x :: xs => by
    show (match kyD (.str x), kysD (xs.map .str) with
      | some k, some ks => some (k :: ks)
      | _, _ => none) = _
    rw [kysD_str xs]; rfl
theorem unl_nodup : ∀ xs : List Str, unl xs = true ↔ xs.Nodup
  | [] => by simp [unl]
  | x :: xs => by simp [unl, unl_nodup xs]
theorem mK_str (l : List Str) (x : Str) : mK (l.map Sum.inr) (Sum.inr x) = decide (x ∈ l) := by
  rw [Bool.eq_iff_iff, mK_iff]
  simp
theorem fm_len : ∀ (xs l : List Str), l.Nodup → (((xs.map Sum.inr).foldl dd1 (l.map Sum.inr)).length = l.length + xs.length ↔ (l ++ xs).Nodup)
  | [], l, h => by simp [h]
  | x :: xs, l, h => by
    rw [List.map_cons, List.foldl_cons]
    by_cases hx : x ∈ l
    · have e : dd1 (l.map Sum.inr) (Sum.inr x) = l.map Sum.inr := by
        unfold dd1; rw [mK_str, if_pos (decide_eq_true hx)]
      rw [e]
      have le := fmK_le0 (xs.map Sum.inr) (l.map Sum.inr)
      simp only [List.length_map] at le
      constructor
      · intro z; rw [List.length_cons] at z; omega
      · intro z
        rw [List.nodup_append] at z
        exact absurd rfl (z.2.2 x hx x (by simp))
    · have e : dd1 (l.map Sum.inr) (Sum.inr x) = (l ++ [x]).map Sum.inr := by
        unfold dd1; rw [mK_str, if_neg (by simpa using hx)]; simp
      rw [e]
      have ih := fm_len xs (l ++ [x]) (by
        rw [List.nodup_append]
        refine ⟨h, by simp, fun a ha b hb => ?_⟩
        simp at hb
        subst hb
        exact fun z => hx (z ▸ ha))
      rw [List.append_assoc, List.singleton_append, List.length_append, List.length_singleton] at ih
      rw [List.length_cons, ← ih]
      constructor <;> intro z <;> omega
theorem fm_unl (xs : List Str) : ((fmK (xs.map Sum.inr)).length == xs.length) = unl xs := by
  have h := fm_len xs [] (by simp)
  simp only [List.nil_append, List.length_nil, Nat.zero_add, List.map_nil] at h
  rw [Bool.eq_iff_iff, beq_iff_eq, unl_nodup]
  exact h
theorem are_unlike_ (xs : List Str) (hl : xs.length < 4000) : F_are_unlike [.d (.list (xs.map .str))] [] = .ok (.d (.bool (unl xs))) [] := by
  have h := fm_unl xs
  rw [← h]
  simp [F_are_unlike, B_are_unlike, kysD_str, hl]
  rw [Bool.eq_iff_iff]
  simp
  omega
@[simp] theorem sp0 : (("says" : Str) == ("not" : Str)) = false := rfl
@[simp] theorem sq0 : (("says" : Str) = ("not" : Str)) = False := eq_false (by decide)
@[simp] theorem sp1 : (("says" : Str) == ("and" : Str)) = false := rfl
@[simp] theorem sq1 : (("says" : Str) = ("and" : Str)) = False := eq_false (by decide)
@[simp] theorem sp2 : (("says" : Str) == ("or" : Str)) = false := rfl
@[simp] theorem sq2 : (("says" : Str) = ("or" : Str)) = False := eq_false (by decide)
@[simp] theorem sp3 : (("says" : Str) == ("always" : Str)) = false := rfl
@[simp] theorem sq3 : (("says" : Str) = ("always" : Str)) = False := eq_false (by decide)
@[simp] theorem sp4 : (("says" : Str) == ("peril" : Str)) = false := rfl
@[simp] theorem sq4 : (("says" : Str) = ("peril" : Str)) = False := eq_false (by decide)
@[simp] theorem sp5 : (("says" : Str) == ("place" : Str)) = false := rfl
@[simp] theorem sq5 : (("says" : Str) = ("place" : Str)) = False := eq_false (by decide)
@[simp] theorem sp6 : (("says" : Str) == ("object" : Str)) = false := rfl
@[simp] theorem sq6 : (("says" : Str) = ("object" : Str)) = False := eq_false (by decide)
@[simp] theorem sp7 : (("says" : Str) == ("day" : Str)) = false := rfl
@[simp] theorem sq7 : (("says" : Str) = ("day" : Str)) = False := eq_false (by decide)
@[simp] theorem sp8 : (("says" : Str) == ("noticed" : Str)) = false := rfl
@[simp] theorem sq8 : (("says" : Str) = ("noticed" : Str)) = False := eq_false (by decide)
@[simp] theorem sp9 : (("says" : Str) == ("told" : Str)) = false := rfl
@[simp] theorem sq9 : (("says" : Str) = ("told" : Str)) = False := eq_false (by decide)
@[simp] theorem sp10 : (("says" : Str) == ("date" : Str)) = false := rfl
@[simp] theorem sq10 : (("says" : Str) = ("date" : Str)) = False := eq_false (by decide)
@[simp] theorem sp11 : (("says" : Str) == ("rule" : Str)) = false := rfl
@[simp] theorem sq11 : (("says" : Str) = ("rule" : Str)) = False := eq_false (by decide)
@[simp] theorem sp12 : (("not" : Str) == ("says" : Str)) = false := rfl
@[simp] theorem sq12 : (("not" : Str) = ("says" : Str)) = False := eq_false (by decide)
@[simp] theorem sp13 : (("not" : Str) == ("and" : Str)) = false := rfl
@[simp] theorem sq13 : (("not" : Str) = ("and" : Str)) = False := eq_false (by decide)
@[simp] theorem sp14 : (("not" : Str) == ("or" : Str)) = false := rfl
@[simp] theorem sq14 : (("not" : Str) = ("or" : Str)) = False := eq_false (by decide)
@[simp] theorem sp15 : (("not" : Str) == ("always" : Str)) = false := rfl
@[simp] theorem sq15 : (("not" : Str) = ("always" : Str)) = False := eq_false (by decide)
@[simp] theorem sp16 : (("not" : Str) == ("peril" : Str)) = false := rfl
@[simp] theorem sq16 : (("not" : Str) = ("peril" : Str)) = False := eq_false (by decide)
@[simp] theorem sp17 : (("not" : Str) == ("place" : Str)) = false := rfl
@[simp] theorem sq17 : (("not" : Str) = ("place" : Str)) = False := eq_false (by decide)
@[simp] theorem sp18 : (("not" : Str) == ("object" : Str)) = false := rfl
@[simp] theorem sq18 : (("not" : Str) = ("object" : Str)) = False := eq_false (by decide)
@[simp] theorem sp19 : (("not" : Str) == ("day" : Str)) = false := rfl
@[simp] theorem sq19 : (("not" : Str) = ("day" : Str)) = False := eq_false (by decide)
@[simp] theorem sp20 : (("not" : Str) == ("noticed" : Str)) = false := rfl
@[simp] theorem sq20 : (("not" : Str) = ("noticed" : Str)) = False := eq_false (by decide)
@[simp] theorem sp21 : (("not" : Str) == ("told" : Str)) = false := rfl
@[simp] theorem sq21 : (("not" : Str) = ("told" : Str)) = False := eq_false (by decide)
@[simp] theorem sp22 : (("not" : Str) == ("date" : Str)) = false := rfl
@[simp] theorem sq22 : (("not" : Str) = ("date" : Str)) = False := eq_false (by decide)
@[simp] theorem sp23 : (("not" : Str) == ("rule" : Str)) = false := rfl
@[simp] theorem sq23 : (("not" : Str) = ("rule" : Str)) = False := eq_false (by decide)
@[simp] theorem sp24 : (("and" : Str) == ("says" : Str)) = false := rfl
@[simp] theorem sq24 : (("and" : Str) = ("says" : Str)) = False := eq_false (by decide)
@[simp] theorem sp25 : (("and" : Str) == ("not" : Str)) = false := rfl
@[simp] theorem sq25 : (("and" : Str) = ("not" : Str)) = False := eq_false (by decide)
@[simp] theorem sp26 : (("and" : Str) == ("or" : Str)) = false := rfl
@[simp] theorem sq26 : (("and" : Str) = ("or" : Str)) = False := eq_false (by decide)
@[simp] theorem sp27 : (("and" : Str) == ("always" : Str)) = false := rfl
@[simp] theorem sq27 : (("and" : Str) = ("always" : Str)) = False := eq_false (by decide)
@[simp] theorem sp28 : (("and" : Str) == ("peril" : Str)) = false := rfl
@[simp] theorem sq28 : (("and" : Str) = ("peril" : Str)) = False := eq_false (by decide)
@[simp] theorem sp29 : (("and" : Str) == ("place" : Str)) = false := rfl
@[simp] theorem sq29 : (("and" : Str) = ("place" : Str)) = False := eq_false (by decide)
@[simp] theorem sp30 : (("and" : Str) == ("object" : Str)) = false := rfl
@[simp] theorem sq30 : (("and" : Str) = ("object" : Str)) = False := eq_false (by decide)
@[simp] theorem sp31 : (("and" : Str) == ("day" : Str)) = false := rfl
@[simp] theorem sq31 : (("and" : Str) = ("day" : Str)) = False := eq_false (by decide)
@[simp] theorem sp32 : (("and" : Str) == ("noticed" : Str)) = false := rfl
@[simp] theorem sq32 : (("and" : Str) = ("noticed" : Str)) = False := eq_false (by decide)
@[simp] theorem sp33 : (("and" : Str) == ("told" : Str)) = false := rfl
@[simp] theorem sq33 : (("and" : Str) = ("told" : Str)) = False := eq_false (by decide)
@[simp] theorem sp34 : (("and" : Str) == ("date" : Str)) = false := rfl
@[simp] theorem sq34 : (("and" : Str) = ("date" : Str)) = False := eq_false (by decide)
@[simp] theorem sp35 : (("and" : Str) == ("rule" : Str)) = false := rfl
@[simp] theorem sq35 : (("and" : Str) = ("rule" : Str)) = False := eq_false (by decide)
@[simp] theorem sp36 : (("or" : Str) == ("says" : Str)) = false := rfl
@[simp] theorem sq36 : (("or" : Str) = ("says" : Str)) = False := eq_false (by decide)
@[simp] theorem sp37 : (("or" : Str) == ("not" : Str)) = false := rfl
@[simp] theorem sq37 : (("or" : Str) = ("not" : Str)) = False := eq_false (by decide)
@[simp] theorem sp38 : (("or" : Str) == ("and" : Str)) = false := rfl
@[simp] theorem sq38 : (("or" : Str) = ("and" : Str)) = False := eq_false (by decide)
@[simp] theorem sp39 : (("or" : Str) == ("always" : Str)) = false := rfl
@[simp] theorem sq39 : (("or" : Str) = ("always" : Str)) = False := eq_false (by decide)
@[simp] theorem sp40 : (("or" : Str) == ("peril" : Str)) = false := rfl
@[simp] theorem sq40 : (("or" : Str) = ("peril" : Str)) = False := eq_false (by decide)
@[simp] theorem sp41 : (("or" : Str) == ("place" : Str)) = false := rfl
@[simp] theorem sq41 : (("or" : Str) = ("place" : Str)) = False := eq_false (by decide)
@[simp] theorem sp42 : (("or" : Str) == ("object" : Str)) = false := rfl
@[simp] theorem sq42 : (("or" : Str) = ("object" : Str)) = False := eq_false (by decide)
@[simp] theorem sp43 : (("or" : Str) == ("day" : Str)) = false := rfl
@[simp] theorem sq43 : (("or" : Str) = ("day" : Str)) = False := eq_false (by decide)
@[simp] theorem sp44 : (("or" : Str) == ("noticed" : Str)) = false := rfl
@[simp] theorem sq44 : (("or" : Str) = ("noticed" : Str)) = False := eq_false (by decide)
@[simp] theorem sp45 : (("or" : Str) == ("told" : Str)) = false := rfl
@[simp] theorem sq45 : (("or" : Str) = ("told" : Str)) = False := eq_false (by decide)
@[simp] theorem sp46 : (("or" : Str) == ("date" : Str)) = false := rfl
@[simp] theorem sq46 : (("or" : Str) = ("date" : Str)) = False := eq_false (by decide)
@[simp] theorem sp47 : (("or" : Str) == ("rule" : Str)) = false := rfl
@[simp] theorem sq47 : (("or" : Str) = ("rule" : Str)) = False := eq_false (by decide)
@[simp] theorem sp48 : (("always" : Str) == ("says" : Str)) = false := rfl
@[simp] theorem sq48 : (("always" : Str) = ("says" : Str)) = False := eq_false (by decide)
@[simp] theorem sp49 : (("always" : Str) == ("not" : Str)) = false := rfl
@[simp] theorem sq49 : (("always" : Str) = ("not" : Str)) = False := eq_false (by decide)
@[simp] theorem sp50 : (("always" : Str) == ("and" : Str)) = false := rfl
@[simp] theorem sq50 : (("always" : Str) = ("and" : Str)) = False := eq_false (by decide)
@[simp] theorem sp51 : (("always" : Str) == ("or" : Str)) = false := rfl
@[simp] theorem sq51 : (("always" : Str) = ("or" : Str)) = False := eq_false (by decide)
@[simp] theorem sp52 : (("always" : Str) == ("peril" : Str)) = false := rfl
@[simp] theorem sq52 : (("always" : Str) = ("peril" : Str)) = False := eq_false (by decide)
@[simp] theorem sp53 : (("always" : Str) == ("place" : Str)) = false := rfl
@[simp] theorem sq53 : (("always" : Str) = ("place" : Str)) = False := eq_false (by decide)
@[simp] theorem sp54 : (("always" : Str) == ("object" : Str)) = false := rfl
@[simp] theorem sq54 : (("always" : Str) = ("object" : Str)) = False := eq_false (by decide)
@[simp] theorem sp55 : (("always" : Str) == ("day" : Str)) = false := rfl
@[simp] theorem sq55 : (("always" : Str) = ("day" : Str)) = False := eq_false (by decide)
@[simp] theorem sp56 : (("always" : Str) == ("noticed" : Str)) = false := rfl
@[simp] theorem sq56 : (("always" : Str) = ("noticed" : Str)) = False := eq_false (by decide)
@[simp] theorem sp57 : (("always" : Str) == ("told" : Str)) = false := rfl
@[simp] theorem sq57 : (("always" : Str) = ("told" : Str)) = False := eq_false (by decide)
@[simp] theorem sp58 : (("always" : Str) == ("date" : Str)) = false := rfl
@[simp] theorem sq58 : (("always" : Str) = ("date" : Str)) = False := eq_false (by decide)
@[simp] theorem sp59 : (("always" : Str) == ("rule" : Str)) = false := rfl
@[simp] theorem sq59 : (("always" : Str) = ("rule" : Str)) = False := eq_false (by decide)
@[simp] theorem sp60 : (("peril" : Str) == ("says" : Str)) = false := rfl
@[simp] theorem sq60 : (("peril" : Str) = ("says" : Str)) = False := eq_false (by decide)
@[simp] theorem sp61 : (("peril" : Str) == ("not" : Str)) = false := rfl
@[simp] theorem sq61 : (("peril" : Str) = ("not" : Str)) = False := eq_false (by decide)
@[simp] theorem sp62 : (("peril" : Str) == ("and" : Str)) = false := rfl
@[simp] theorem sq62 : (("peril" : Str) = ("and" : Str)) = False := eq_false (by decide)
@[simp] theorem sp63 : (("peril" : Str) == ("or" : Str)) = false := rfl
@[simp] theorem sq63 : (("peril" : Str) = ("or" : Str)) = False := eq_false (by decide)
@[simp] theorem sp64 : (("peril" : Str) == ("always" : Str)) = false := rfl
@[simp] theorem sq64 : (("peril" : Str) = ("always" : Str)) = False := eq_false (by decide)
@[simp] theorem sp65 : (("peril" : Str) == ("place" : Str)) = false := rfl
@[simp] theorem sq65 : (("peril" : Str) = ("place" : Str)) = False := eq_false (by decide)
@[simp] theorem sp66 : (("peril" : Str) == ("object" : Str)) = false := rfl
@[simp] theorem sq66 : (("peril" : Str) = ("object" : Str)) = False := eq_false (by decide)
@[simp] theorem sp67 : (("peril" : Str) == ("day" : Str)) = false := rfl
@[simp] theorem sq67 : (("peril" : Str) = ("day" : Str)) = False := eq_false (by decide)
@[simp] theorem sp68 : (("peril" : Str) == ("noticed" : Str)) = false := rfl
@[simp] theorem sq68 : (("peril" : Str) = ("noticed" : Str)) = False := eq_false (by decide)
@[simp] theorem sp69 : (("peril" : Str) == ("told" : Str)) = false := rfl
@[simp] theorem sq69 : (("peril" : Str) = ("told" : Str)) = False := eq_false (by decide)
@[simp] theorem sp70 : (("peril" : Str) == ("date" : Str)) = false := rfl
@[simp] theorem sq70 : (("peril" : Str) = ("date" : Str)) = False := eq_false (by decide)
@[simp] theorem sp71 : (("peril" : Str) == ("rule" : Str)) = false := rfl
@[simp] theorem sq71 : (("peril" : Str) = ("rule" : Str)) = False := eq_false (by decide)
@[simp] theorem sp72 : (("place" : Str) == ("says" : Str)) = false := rfl
@[simp] theorem sq72 : (("place" : Str) = ("says" : Str)) = False := eq_false (by decide)
@[simp] theorem sp73 : (("place" : Str) == ("not" : Str)) = false := rfl
@[simp] theorem sq73 : (("place" : Str) = ("not" : Str)) = False := eq_false (by decide)
@[simp] theorem sp74 : (("place" : Str) == ("and" : Str)) = false := rfl
@[simp] theorem sq74 : (("place" : Str) = ("and" : Str)) = False := eq_false (by decide)
@[simp] theorem sp75 : (("place" : Str) == ("or" : Str)) = false := rfl
@[simp] theorem sq75 : (("place" : Str) = ("or" : Str)) = False := eq_false (by decide)
@[simp] theorem sp76 : (("place" : Str) == ("always" : Str)) = false := rfl
@[simp] theorem sq76 : (("place" : Str) = ("always" : Str)) = False := eq_false (by decide)
@[simp] theorem sp77 : (("place" : Str) == ("peril" : Str)) = false := rfl
@[simp] theorem sq77 : (("place" : Str) = ("peril" : Str)) = False := eq_false (by decide)
@[simp] theorem sp78 : (("place" : Str) == ("object" : Str)) = false := rfl
@[simp] theorem sq78 : (("place" : Str) = ("object" : Str)) = False := eq_false (by decide)
@[simp] theorem sp79 : (("place" : Str) == ("day" : Str)) = false := rfl
@[simp] theorem sq79 : (("place" : Str) = ("day" : Str)) = False := eq_false (by decide)
@[simp] theorem sp80 : (("place" : Str) == ("noticed" : Str)) = false := rfl
@[simp] theorem sq80 : (("place" : Str) = ("noticed" : Str)) = False := eq_false (by decide)
@[simp] theorem sp81 : (("place" : Str) == ("told" : Str)) = false := rfl
@[simp] theorem sq81 : (("place" : Str) = ("told" : Str)) = False := eq_false (by decide)
@[simp] theorem sp82 : (("place" : Str) == ("date" : Str)) = false := rfl
@[simp] theorem sq82 : (("place" : Str) = ("date" : Str)) = False := eq_false (by decide)
@[simp] theorem sp83 : (("place" : Str) == ("rule" : Str)) = false := rfl
@[simp] theorem sq83 : (("place" : Str) = ("rule" : Str)) = False := eq_false (by decide)
@[simp] theorem sp84 : (("object" : Str) == ("says" : Str)) = false := rfl
@[simp] theorem sq84 : (("object" : Str) = ("says" : Str)) = False := eq_false (by decide)
@[simp] theorem sp85 : (("object" : Str) == ("not" : Str)) = false := rfl
@[simp] theorem sq85 : (("object" : Str) = ("not" : Str)) = False := eq_false (by decide)
@[simp] theorem sp86 : (("object" : Str) == ("and" : Str)) = false := rfl
@[simp] theorem sq86 : (("object" : Str) = ("and" : Str)) = False := eq_false (by decide)
@[simp] theorem sp87 : (("object" : Str) == ("or" : Str)) = false := rfl
@[simp] theorem sq87 : (("object" : Str) = ("or" : Str)) = False := eq_false (by decide)
@[simp] theorem sp88 : (("object" : Str) == ("always" : Str)) = false := rfl
@[simp] theorem sq88 : (("object" : Str) = ("always" : Str)) = False := eq_false (by decide)
@[simp] theorem sp89 : (("object" : Str) == ("peril" : Str)) = false := rfl
@[simp] theorem sq89 : (("object" : Str) = ("peril" : Str)) = False := eq_false (by decide)
@[simp] theorem sp90 : (("object" : Str) == ("place" : Str)) = false := rfl
@[simp] theorem sq90 : (("object" : Str) = ("place" : Str)) = False := eq_false (by decide)
@[simp] theorem sp91 : (("object" : Str) == ("day" : Str)) = false := rfl
@[simp] theorem sq91 : (("object" : Str) = ("day" : Str)) = False := eq_false (by decide)
@[simp] theorem sp92 : (("object" : Str) == ("noticed" : Str)) = false := rfl
@[simp] theorem sq92 : (("object" : Str) = ("noticed" : Str)) = False := eq_false (by decide)
@[simp] theorem sp93 : (("object" : Str) == ("told" : Str)) = false := rfl
@[simp] theorem sq93 : (("object" : Str) = ("told" : Str)) = False := eq_false (by decide)
@[simp] theorem sp94 : (("object" : Str) == ("date" : Str)) = false := rfl
@[simp] theorem sq94 : (("object" : Str) = ("date" : Str)) = False := eq_false (by decide)
@[simp] theorem sp95 : (("object" : Str) == ("rule" : Str)) = false := rfl
@[simp] theorem sq95 : (("object" : Str) = ("rule" : Str)) = False := eq_false (by decide)
@[simp] theorem sp96 : (("day" : Str) == ("says" : Str)) = false := rfl
@[simp] theorem sq96 : (("day" : Str) = ("says" : Str)) = False := eq_false (by decide)
@[simp] theorem sp97 : (("day" : Str) == ("not" : Str)) = false := rfl
@[simp] theorem sq97 : (("day" : Str) = ("not" : Str)) = False := eq_false (by decide)
@[simp] theorem sp98 : (("day" : Str) == ("and" : Str)) = false := rfl
@[simp] theorem sq98 : (("day" : Str) = ("and" : Str)) = False := eq_false (by decide)
@[simp] theorem sp99 : (("day" : Str) == ("or" : Str)) = false := rfl
@[simp] theorem sq99 : (("day" : Str) = ("or" : Str)) = False := eq_false (by decide)
@[simp] theorem sp100 : (("day" : Str) == ("always" : Str)) = false := rfl
@[simp] theorem sq100 : (("day" : Str) = ("always" : Str)) = False := eq_false (by decide)
@[simp] theorem sp101 : (("day" : Str) == ("peril" : Str)) = false := rfl
@[simp] theorem sq101 : (("day" : Str) = ("peril" : Str)) = False := eq_false (by decide)
@[simp] theorem sp102 : (("day" : Str) == ("place" : Str)) = false := rfl
@[simp] theorem sq102 : (("day" : Str) = ("place" : Str)) = False := eq_false (by decide)
@[simp] theorem sp103 : (("day" : Str) == ("object" : Str)) = false := rfl
@[simp] theorem sq103 : (("day" : Str) = ("object" : Str)) = False := eq_false (by decide)
@[simp] theorem sp104 : (("day" : Str) == ("noticed" : Str)) = false := rfl
@[simp] theorem sq104 : (("day" : Str) = ("noticed" : Str)) = False := eq_false (by decide)
@[simp] theorem sp105 : (("day" : Str) == ("told" : Str)) = false := rfl
@[simp] theorem sq105 : (("day" : Str) = ("told" : Str)) = False := eq_false (by decide)
@[simp] theorem sp106 : (("day" : Str) == ("date" : Str)) = false := rfl
@[simp] theorem sq106 : (("day" : Str) = ("date" : Str)) = False := eq_false (by decide)
@[simp] theorem sp107 : (("day" : Str) == ("rule" : Str)) = false := rfl
@[simp] theorem sq107 : (("day" : Str) = ("rule" : Str)) = False := eq_false (by decide)
@[simp] theorem sp108 : (("noticed" : Str) == ("says" : Str)) = false := rfl
@[simp] theorem sq108 : (("noticed" : Str) = ("says" : Str)) = False := eq_false (by decide)
@[simp] theorem sp109 : (("noticed" : Str) == ("not" : Str)) = false := rfl
@[simp] theorem sq109 : (("noticed" : Str) = ("not" : Str)) = False := eq_false (by decide)
@[simp] theorem sp110 : (("noticed" : Str) == ("and" : Str)) = false := rfl
@[simp] theorem sq110 : (("noticed" : Str) = ("and" : Str)) = False := eq_false (by decide)
@[simp] theorem sp111 : (("noticed" : Str) == ("or" : Str)) = false := rfl
@[simp] theorem sq111 : (("noticed" : Str) = ("or" : Str)) = False := eq_false (by decide)
@[simp] theorem sp112 : (("noticed" : Str) == ("always" : Str)) = false := rfl
@[simp] theorem sq112 : (("noticed" : Str) = ("always" : Str)) = False := eq_false (by decide)
@[simp] theorem sp113 : (("noticed" : Str) == ("peril" : Str)) = false := rfl
@[simp] theorem sq113 : (("noticed" : Str) = ("peril" : Str)) = False := eq_false (by decide)
@[simp] theorem sp114 : (("noticed" : Str) == ("place" : Str)) = false := rfl
@[simp] theorem sq114 : (("noticed" : Str) = ("place" : Str)) = False := eq_false (by decide)
@[simp] theorem sp115 : (("noticed" : Str) == ("object" : Str)) = false := rfl
@[simp] theorem sq115 : (("noticed" : Str) = ("object" : Str)) = False := eq_false (by decide)
@[simp] theorem sp116 : (("noticed" : Str) == ("day" : Str)) = false := rfl
@[simp] theorem sq116 : (("noticed" : Str) = ("day" : Str)) = False := eq_false (by decide)
@[simp] theorem sp117 : (("noticed" : Str) == ("told" : Str)) = false := rfl
@[simp] theorem sq117 : (("noticed" : Str) = ("told" : Str)) = False := eq_false (by decide)
@[simp] theorem sp118 : (("noticed" : Str) == ("date" : Str)) = false := rfl
@[simp] theorem sq118 : (("noticed" : Str) = ("date" : Str)) = False := eq_false (by decide)
@[simp] theorem sp119 : (("noticed" : Str) == ("rule" : Str)) = false := rfl
@[simp] theorem sq119 : (("noticed" : Str) = ("rule" : Str)) = False := eq_false (by decide)
@[simp] theorem sp120 : (("told" : Str) == ("says" : Str)) = false := rfl
@[simp] theorem sq120 : (("told" : Str) = ("says" : Str)) = False := eq_false (by decide)
@[simp] theorem sp121 : (("told" : Str) == ("not" : Str)) = false := rfl
@[simp] theorem sq121 : (("told" : Str) = ("not" : Str)) = False := eq_false (by decide)
@[simp] theorem sp122 : (("told" : Str) == ("and" : Str)) = false := rfl
@[simp] theorem sq122 : (("told" : Str) = ("and" : Str)) = False := eq_false (by decide)
@[simp] theorem sp123 : (("told" : Str) == ("or" : Str)) = false := rfl
@[simp] theorem sq123 : (("told" : Str) = ("or" : Str)) = False := eq_false (by decide)
@[simp] theorem sp124 : (("told" : Str) == ("always" : Str)) = false := rfl
@[simp] theorem sq124 : (("told" : Str) = ("always" : Str)) = False := eq_false (by decide)
@[simp] theorem sp125 : (("told" : Str) == ("peril" : Str)) = false := rfl
@[simp] theorem sq125 : (("told" : Str) = ("peril" : Str)) = False := eq_false (by decide)
@[simp] theorem sp126 : (("told" : Str) == ("place" : Str)) = false := rfl
@[simp] theorem sq126 : (("told" : Str) = ("place" : Str)) = False := eq_false (by decide)
@[simp] theorem sp127 : (("told" : Str) == ("object" : Str)) = false := rfl
@[simp] theorem sq127 : (("told" : Str) = ("object" : Str)) = False := eq_false (by decide)
@[simp] theorem sp128 : (("told" : Str) == ("day" : Str)) = false := rfl
@[simp] theorem sq128 : (("told" : Str) = ("day" : Str)) = False := eq_false (by decide)
@[simp] theorem sp129 : (("told" : Str) == ("noticed" : Str)) = false := rfl
@[simp] theorem sq129 : (("told" : Str) = ("noticed" : Str)) = False := eq_false (by decide)
@[simp] theorem sp130 : (("told" : Str) == ("date" : Str)) = false := rfl
@[simp] theorem sq130 : (("told" : Str) = ("date" : Str)) = False := eq_false (by decide)
@[simp] theorem sp131 : (("told" : Str) == ("rule" : Str)) = false := rfl
@[simp] theorem sq131 : (("told" : Str) = ("rule" : Str)) = False := eq_false (by decide)
@[simp] theorem sp132 : (("date" : Str) == ("says" : Str)) = false := rfl
@[simp] theorem sq132 : (("date" : Str) = ("says" : Str)) = False := eq_false (by decide)
@[simp] theorem sp133 : (("date" : Str) == ("not" : Str)) = false := rfl
@[simp] theorem sq133 : (("date" : Str) = ("not" : Str)) = False := eq_false (by decide)
@[simp] theorem sp134 : (("date" : Str) == ("and" : Str)) = false := rfl
@[simp] theorem sq134 : (("date" : Str) = ("and" : Str)) = False := eq_false (by decide)
@[simp] theorem sp135 : (("date" : Str) == ("or" : Str)) = false := rfl
@[simp] theorem sq135 : (("date" : Str) = ("or" : Str)) = False := eq_false (by decide)
@[simp] theorem sp136 : (("date" : Str) == ("always" : Str)) = false := rfl
@[simp] theorem sq136 : (("date" : Str) = ("always" : Str)) = False := eq_false (by decide)
@[simp] theorem sp137 : (("date" : Str) == ("peril" : Str)) = false := rfl
@[simp] theorem sq137 : (("date" : Str) = ("peril" : Str)) = False := eq_false (by decide)
@[simp] theorem sp138 : (("date" : Str) == ("place" : Str)) = false := rfl
@[simp] theorem sq138 : (("date" : Str) = ("place" : Str)) = False := eq_false (by decide)
@[simp] theorem sp139 : (("date" : Str) == ("object" : Str)) = false := rfl
@[simp] theorem sq139 : (("date" : Str) = ("object" : Str)) = False := eq_false (by decide)
@[simp] theorem sp140 : (("date" : Str) == ("day" : Str)) = false := rfl
@[simp] theorem sq140 : (("date" : Str) = ("day" : Str)) = False := eq_false (by decide)
@[simp] theorem sp141 : (("date" : Str) == ("noticed" : Str)) = false := rfl
@[simp] theorem sq141 : (("date" : Str) = ("noticed" : Str)) = False := eq_false (by decide)
@[simp] theorem sp142 : (("date" : Str) == ("told" : Str)) = false := rfl
@[simp] theorem sq142 : (("date" : Str) = ("told" : Str)) = False := eq_false (by decide)
@[simp] theorem sp143 : (("date" : Str) == ("rule" : Str)) = false := rfl
@[simp] theorem sq143 : (("date" : Str) = ("rule" : Str)) = False := eq_false (by decide)
@[simp] theorem sp144 : (("rule" : Str) == ("says" : Str)) = false := rfl
@[simp] theorem sq144 : (("rule" : Str) = ("says" : Str)) = False := eq_false (by decide)
@[simp] theorem sp145 : (("rule" : Str) == ("not" : Str)) = false := rfl
@[simp] theorem sq145 : (("rule" : Str) = ("not" : Str)) = False := eq_false (by decide)
@[simp] theorem sp146 : (("rule" : Str) == ("and" : Str)) = false := rfl
@[simp] theorem sq146 : (("rule" : Str) = ("and" : Str)) = False := eq_false (by decide)
@[simp] theorem sp147 : (("rule" : Str) == ("or" : Str)) = false := rfl
@[simp] theorem sq147 : (("rule" : Str) = ("or" : Str)) = False := eq_false (by decide)
@[simp] theorem sp148 : (("rule" : Str) == ("always" : Str)) = false := rfl
@[simp] theorem sq148 : (("rule" : Str) = ("always" : Str)) = False := eq_false (by decide)
@[simp] theorem sp149 : (("rule" : Str) == ("peril" : Str)) = false := rfl
@[simp] theorem sq149 : (("rule" : Str) = ("peril" : Str)) = False := eq_false (by decide)
@[simp] theorem sp150 : (("rule" : Str) == ("place" : Str)) = false := rfl
@[simp] theorem sq150 : (("rule" : Str) = ("place" : Str)) = False := eq_false (by decide)
@[simp] theorem sp151 : (("rule" : Str) == ("object" : Str)) = false := rfl
@[simp] theorem sq151 : (("rule" : Str) = ("object" : Str)) = False := eq_false (by decide)
@[simp] theorem sp152 : (("rule" : Str) == ("day" : Str)) = false := rfl
@[simp] theorem sq152 : (("rule" : Str) = ("day" : Str)) = False := eq_false (by decide)
@[simp] theorem sp153 : (("rule" : Str) == ("noticed" : Str)) = false := rfl
@[simp] theorem sq153 : (("rule" : Str) = ("noticed" : Str)) = False := eq_false (by decide)
@[simp] theorem sp154 : (("rule" : Str) == ("told" : Str)) = false := rfl
@[simp] theorem sq154 : (("rule" : Str) = ("told" : Str)) = False := eq_false (by decide)
@[simp] theorem sp155 : (("rule" : Str) == ("date" : Str)) = false := rfl
@[simp] theorem sq155 : (("rule" : Str) = ("date" : Str)) = False := eq_false (by decide)
theorem isa_tuple_ne {d : D} (h : ∀ xs, d ≠ .tuple xs) : isaD "tuple" d = false := by
  cases d with
  | tuple xs => exact absurd rfl (h xs)
  | _ => rfl
theorem isa_str_ne {d : D} (h : ∀ xs, d ≠ .str xs) : isaD "str" d = false := by
  cases d with
  | str xs => exact absurd rfl (h xs)
  | _ => rfl
theorem law_number_ (d : D) (a b : Int) : F__law_is_number [.d d, .d (.int a), .d (.int b)] [] = .ok (.d (.bool (isNum d a b))) [] := is_number_ d a b
def isPN (x : Str) : Bool := !(x == "says" || (x == "not" || (x == "and" || x == "or")))
def leI (a b : D) : Bool := match a, b with
  | .int i, .int j => decide (i ≤ j)
  | _, _ => false
def condP (d : D) : Bool := match d with
  | .tuple (.str w :: rest) => if w = "always" then rest.isEmpty else if w = "day" then (match rest with
      | [a, b] => isNum a 0 36500 && (isNum b 0 36500 && leI a b)
      | _ => false) else if w = "peril" ∨ w = "place" ∨ w = "object" then decide (1 ≤ rest.length) && (decide (rest.length ≤ 12) && rest.all isName) else false
  | _ => false
def notP (d : D) : Bool := match d with
  | .tuple (.str w :: rest) => decide (w = "noticed") && (match rest with
      | [a] => isNum a 0 6000
      | _ => false)
  | _ => false
theorem isNum_int {d : D} {a b : Int} (h : isNum d a b = true) : ∃ i, d = .int i := by
  cases d with
  | int i => exact ⟨i, rfl⟩
  | _ => simp [isNum] at h
theorem names_lc {p : Str → Bool} {F : List S → M Rv} (hF : ∀ d, Sane p d → F [.d d] [] = .ok (.d (.bool (isName d))) []) {xs : List D} {s : S} (h : ∀ x ∈ xs, Sane p x) (hl : xs.length ≤ 100000) {e : List S → M S} (g : D → D) (he : ∀ x ∈ xs, e [s, .d x] [] = .ok (.d (g x)) []) :
    lcL (gtN 1) (tNotM (tT (eFrz (eCall F (aCons (eV 1) aNil))))) e [s, .no] xs [] [] = .ok (.own (.lst ((xs.filter fun x => !isName x).map g))) [] := by
  have q := lcL_pure (cs := []) (tg := gtN 1) (t := tNotM (tT (eFrz (eCall F (aCons (eV 1) aNil))))) (f := e) (ρ := [s, .no]) (fun y => [s, .d y]) (fun x => !isName x) g xs [] (fun x hx => ⟨rfl, by simp [hF x (h x hx)], fun _ => he x hx⟩) (by simp; exact size_ok (by omega))
  simpa using q
theorem filt_nil {xs : List D} (f : D → Bool) : (xs.filter fun x => !f x).isEmpty = xs.all f := by
  rw [Bool.eq_iff_iff]
  simp [List.filter_eq_nil_iff]
theorem are_names_ {p : Str → Bool} {xs : List D} (h : Sane p (.tuple xs)) : F_are_names [.d (.tuple xs)] [] = .ok (.d (.bool (decide (1 ≤ xs.length) && (decide (xs.length ≤ 12) && xs.all isName)))) [] := by
  by_cases q1 : 1 ≤ xs.length
  · by_cases q2 : xs.length ≤ 12
    · have k1 : (1 : Int) ≤ xs.length := by omega
      have k2 : (xs.length : Int) ≤ 12 := by omega
      have lc := names_lc (fun d hd => is_name_ hd) (xs := xs) (s := .d (.tuple xs)) (fun x hx => h.mem hx) (by omega) (e := eV 1) id (fun x _ => by simp)
      rw [List.map_id] at lc
      have sh := (h.sub (ys := xs.filter fun x => !isName x) (fun x hx => (List.mem_filter.1 hx).1)).2.sh
      have en := eq_nil sh
      rw [filt_nil] at en
      simp [F_are_names, B_are_names, is_tuple_, isTup, k1, k2, q1, q2, lc, en]
    · have k2 : ¬ (xs.length : Int) ≤ 12 := by omega
      simp [F_are_names, B_are_names, is_tuple_, isTup, k2, q2]
  · have k2 : ¬ (1 : Int) ≤ xs.length := by omega
    simp [F_are_names, B_are_names, is_tuple_, isTup, k2, q1]
theorem pn_of {x : Str} (h : isPN x = true) : x ≠ "says" ∧ x ≠ "not" ∧ x ≠ "and" ∧ x ≠ "or" := by
  simp [isPN] at h
  exact h
theorem beq_ne {x y : Str} (h : x ≠ y) : (x == y) = false ∧ (y == x) = false := ⟨by simpa using h, by simpa using (fun z => h z.symm)⟩
theorem conditions_in_ {d : D} (h : Sane isPN d) : F_conditions_in [.d d] [] = .ok (if (condP d || notP d) = true then .d (.list []) else .d .none) [] := by
  cases d with
  | tuple xs =>
    cases xs with
    | nil => simp [F_conditions_in, B_conditions_in, condP, notP]
    | cons x0 rest =>
      have k0 : ¬ ((rest.length : Int) + 1 < 1) := by omega
      by_cases hs : ∃ w, x0 = .str w
      · obtain ⟨w, rfl⟩ := hs
        obtain ⟨p1, p2, p3, p4⟩ := pn_of (x := w) (h.mem (x := .str w) (by simp)).str.2.2
        have hr : Sane isPN (.tuple rest) := (h.sub (fun x hx => by simp [hx])).1
        have b1 := beq_ne p1
        have b2 := beq_ne p2
        have b3 := beq_ne p3
        have b4 := beq_ne p4
        by_cases e1 : w = "always"
        · subst e1
          obtain ⟨b, hb⟩ : ∃ b, b = rest.isEmpty := ⟨_, rfl⟩
          have hl : ((rest.length : Int) == 0) = b := by
            subst hb
            cases rest with
            | nil => rfl
            | cons a r => simp; omega
          have cp : condP (.tuple (.str "always" :: rest)) = b := by simp [condP, hb]
          have np : notP (.tuple (.str "always" :: rest)) = false := by simp [notP]
          rw [cp, np]
          cases b <;> simp [F_conditions_in, B_conditions_in, k0, hl]
        · by_cases e2 : w = "peril" ∨ w = "place" ∨ w = "object"
          · have an := are_names_ hr
            obtain ⟨b, hb⟩ : ∃ b, b = (decide (1 ≤ rest.length) && (decide (rest.length ≤ 12) && rest.all isName)) := ⟨_, rfl⟩
            rw [← hb] at an
            have cp : condP (.tuple (.str w :: rest)) = b := by
              rcases e2 with rfl | rfl | rfl <;> simp [condP, hb]
            have np : notP (.tuple (.str w :: rest)) = false := by
              rcases e2 with rfl | rfl | rfl <;> simp [notP]
            rw [cp, np]
            rcases e2 with rfl | rfl | rfl <;> cases b <;> simp [F_conditions_in, B_conditions_in, k0, an]
          · simp only [not_or] at e2
            obtain ⟨f1, f2, f3⟩ := e2
            have b5 := beq_ne e1
            have b6 := beq_ne f1
            have b7 := beq_ne f2
            have b8 := beq_ne f3
            by_cases e3 : w = "day"
            · subst e3
              have np : notP (.tuple (.str "day" :: rest)) = false := by simp [notP]
              rw [np]
              match rest, k0, hr, h with
              | [], k0, hr, h => simp [F_conditions_in, B_conditions_in, condP]
              | [a], k0, hr, h => simp [F_conditions_in, B_conditions_in, condP]
              | [a, b], k0, hr, h =>
                have cp : condP (.tuple [.str "day", a, b]) = (isNum a 0 36500 && (isNum b 0 36500 && leI a b)) := by simp [condP]
                rw [cp]
                cases ha : isNum a 0 36500 with
                | false => simp [F_conditions_in, B_conditions_in, is_day_, ha]
                | true =>
                  cases hb : isNum b 0 36500 with
                  | false => simp [F_conditions_in, B_conditions_in, is_day_, ha, hb]
                  | true =>
                    obtain ⟨i, rfl⟩ := isNum_int ha
                    obtain ⟨j, rfl⟩ := isNum_int hb
                    by_cases hij : i ≤ j <;> simp [F_conditions_in, B_conditions_in, is_day_, ha, hb, leI, hij]
              | a :: b :: c :: r, k0, hr, h =>
                have hl : ((r.length : Int) + 1 + 1 + 1 == 2) = false := by simp; omega
                have k1 : ¬ ((r.length : Int) + 1 + 1 + 1 + 1 < 1) := by omega
                simp [F_conditions_in, B_conditions_in, condP, hl, k1]
            · have b9 := beq_ne e3
              have cp : condP (.tuple (.str w :: rest)) = false := by simp [condP, e1, e3, f1, f2, f3]
              rw [cp]
              by_cases e4 : w = "noticed"
              · subst e4
                match rest, k0, hr, h with
                | [], k0, hr, h => simp [F_conditions_in, B_conditions_in, notP]
                | [a], k0, hr, h =>
                  cases ha : isNum a 0 6000 <;> simp [F_conditions_in, B_conditions_in, is_number_, notP, ha]
                | a :: b :: r, k0, hr, h =>
                  have hl : ((r.length : Int) + 1 + 1 == 1) = false := by simp; omega
                  have k1 : ¬ ((r.length : Int) + 1 + 1 + 1 < 1) := by omega
                  simp [F_conditions_in, B_conditions_in, notP, hl, k1]
              · have b10 := beq_ne e4
                have np : notP (.tuple (.str w :: rest)) = false := by simp [notP, e4]
                rw [np]
                simp [F_conditions_in, B_conditions_in, k0, b1, b2, b3, b4, b5, b6, b7, b8, b9, b10]
      · have hn : isaD "str" x0 = false := isa_str_ne fun w e => hs ⟨w, e⟩
        have cp : condP (.tuple (x0 :: rest)) = false := by
          cases x0 with
          | str w => exact absurd ⟨w, rfl⟩ hs
          | _ => rfl
        have np : notP (.tuple (x0 :: rest)) = false := by
          cases x0 with
          | str w => exact absurd ⟨w, rfl⟩ hs
          | _ => rfl
        simp [F_conditions_in, B_conditions_in, cp, np, k0, hn]
  | _ => simp [F_conditions_in, B_conditions_in, isaD, condP, notP]
theorem is_condition_ (K : PySem.W.Frag) {d : D} (h : Sane isPN d) : F_is_condition K [.d d] [] = .ok (.d (.bool (condP d || notP d))) [] := by
  have c := conditions_in_ h
  cases e : (condP d || notP d) with
  | false =>
    rw [e] at c
    simp at c
    simp [F_is_condition, B_is_condition, F_are_few__conditions_in, B_are_few__conditions_in, sWhile, gWhile_succ, popG, c]
  | true =>
    rw [e] at c
    simp at c
    simp [F_is_condition, B_is_condition, F_are_few__conditions_in, B_are_few__conditions_in, sWhile, gWhile_succ, popG, c]
theorem is_timeless_ {n : Nat} {d : D} (h : Sane isPN d) (hc : (condP d || notP d) = true) : F_is_timeless (n + 1) [.d d] [] = .ok (.d (.bool (condP d))) [] := by
  cases d with
  | tuple xs =>
    cases xs with
    | nil => simp [condP, notP] at hc
    | cons x0 rest =>
      cases x0 with
      | str w =>
        obtain ⟨p1, p2, p3, p4⟩ := pn_of (x := w) (h.mem (x := .str w) (by simp)).str.2.2
        have b2 := beq_ne p2
        have b3 := beq_ne p3
        have b4 := beq_ne p4
        by_cases e : w = "noticed"
        · subst e
          have cp : condP (.tuple (.str "noticed" :: rest)) = false := by simp [condP]
          rw [cp]
          simp [F_is_timeless, B_is_timeless]
        · have np : notP (.tuple (.str w :: rest)) = false := by simp [notP, e]
          rw [np, Bool.or_false] at hc
          rw [hc]
          have b1 := beq_ne e
          simp [F_is_timeless, B_is_timeless, b1, b2, b3, b4]
      | _ => simp [condP, notP] at hc
  | _ => simp [condP, notP] at hc
theorem lf_split : ("abcdefghijklmnopqrstuvwxyz0123456789" : Str).cps.toList = lets ++ figs := by decide
theorem law_name_ {p : Str → Bool} {d : D} (h : Sane p d) : F__law_is_name [.d d] [] = .ok (.d (.bool (isName d))) [] := by
  cases d with
  | str x =>
    obtain ⟨h1, h2, _⟩ := h.str
    have hl := len_cps x
    have l1 := len_str h1
    cases e : x.cps.toList with
    | nil =>
      rw [e] at hl
      simp at hl
      simp [F__law_is_name, B__law_is_name, l1, hl, isName, e]
    | cons c r =>
      rw [e] at hl
      simp only [List.length_cons] at hl
      have i1 := ix_str e h1
      by_cases q1 : r.length ≤ 7
      · have q2 : (x.length : Int) ≤ 8 := by omega
        have q3 : (1 : Int) ≤ x.length := by omega
        by_cases q4 : c ∈ lets
        · have q5 : c ∈ ("abcdefghijklmnopqrstuvwxyz" : Str).cps.toList := q4
          have lc := lcL_pure (cs := []) (tg := gtN 1) (t := op2 ninD (eV 1) (eC (.str "abcdefghijklmnopqrstuvwxyz0123456789"))) (f := eV 1) (ρ := [.d (.str x), .no])
            (fun y => [.d (.str x), .d y]) (fun y => match y with
              | .str z => !(decide (z.cps.getD 0 0 ∈ lets ++ figs))
              | _ => false) id (x.cps.toList.map chD) [] (by
              intro y hy
              obtain ⟨k, hk, rfl⟩ := List.mem_map.1 hy
              refine ⟨rfl, ?_, fun _ => by simp⟩
              have n1 : inD (chD k) (.str "abcdefghijklmnopqrstuvwxyz0123456789") = some (decide (k ∈ lets ++ figs)) := by rw [← lf_split]; exact inD_ch _ _
              have n2 : ninD (.str ⟨#[k]⟩) (.str "abcdefghijklmnopqrstuvwxyz0123456789") = some (!decide (k ∈ lets ++ figs)) := ninD_of n1
              simp [n2, chD]) (by simp [e]; exact size_ok (by omega))
          rw [List.nil_append, List.map_id] at lc
          obtain ⟨fl, hfl⟩ : ∃ fl, fl = (x.cps.toList.map chD).filter fun y => match y with
              | .str z => !(decide (z.cps.getD 0 0 ∈ lets ++ figs))
              | _ => false := ⟨_, rfl⟩
          rw [← hfl] at lc
          have q6 : isName (.str x) = (((fl.length : Nat) : Int) == 0) := by
            have w : (((fl.length : Nat) : Int) == 0) = fl.isEmpty := by
              cases fl with
              | nil => rfl
              | cons a l => simp; omega
            have ef : fl = (x.cps.toList.filter fun k => !(decide (k ∈ lets ++ figs))).map chD := by
              rw [hfl, List.filter_map]; rfl
            rw [w, ef]
            show (match x.cps.toList with
              | [] => false
              | c :: r => decide (r.length ≤ 7) && (decide (c ∈ lets) && (c :: r).all fun k => decide (k ∈ lets) || decide (k ∈ figs))) = _
            rw [e]
            simp only [q1, q4, decide_true, Bool.true_and]
            rw [Bool.eq_iff_iff]
            simp [List.filter_eq_nil_iff, Classical.or_iff_not_imp_left]
            refine ⟨fun h a ha hl => ?_, fun h => ⟨fun hl => h c (fun z => absurd rfl z) hl, fun y hy => h y (fun _ => hy)⟩⟩
            by_cases q : a = c
            · subst q; exact h.1 hl
            · exact h.2 a (ha q) hl
          rw [q6]
          rw [e, List.map_cons] at lc
          simp [F__law_is_name, B__law_is_name, l1, i1, q2, q3, q5, lc, ninD_eq, e]
        · have q5 : ¬ c ∈ ("abcdefghijklmnopqrstuvwxyz" : Str).cps.toList := q4
          simp [F__law_is_name, B__law_is_name, l1, i1, q2, q3, q5, isName, e, q4, ninD_eq]
      · have q2 : ¬ (x.length : Int) ≤ 8 := by omega
        have q3 : (1 : Int) ≤ x.length := by omega
        simp [F__law_is_name, B__law_is_name, l1, i1, q2, q3, isName, e, q1]
  | _ => simp [F__law_is_name, B__law_is_name, isaD, isName]
theorem law_condition_ {d : D} (h : Sane isPN d) : F__law_is_condition [.d d] [] = .ok (.d (.bool (condP d))) [] := by
  cases d with
  | tuple xs =>
    cases xs with
    | nil => simp [F__law_is_condition, B__law_is_condition, condP]
    | cons x0 rest =>
      have k0 : ¬ ((rest.length : Int) + 1 < 1) := by omega
      by_cases hs : ∃ w, x0 = .str w
      · obtain ⟨w, rfl⟩ := hs
        have hr : Sane isPN (.tuple rest) := (h.sub (fun x hx => by simp [hx])).1
        by_cases e1 : w = "always"
        · subst e1
          obtain ⟨b, hb⟩ : ∃ b, b = rest.isEmpty := ⟨_, rfl⟩
          have hl : ((rest.length : Int) + 1 == 1) = b := by
            subst hb
            cases rest with
            | nil => rfl
            | cons a r => simp; omega
          have cp : condP (.tuple (.str "always" :: rest)) = b := by simp [condP, hb]
          rw [cp]
          simp [F__law_is_condition, B__law_is_condition, k0, hl]
        · have b5 := beq_ne e1
          by_cases e3 : w = "day"
          · subst e3
            match rest, k0, hr, h with
            | [], k0, hr, h => simp [F__law_is_condition, B__law_is_condition, condP]
            | [a], k0, hr, h => simp [F__law_is_condition, B__law_is_condition, condP]
            | [a, b], k0, hr, h =>
              have cp : condP (.tuple [.str "day", a, b]) = (isNum a 0 36500 && (isNum b 0 36500 && leI a b)) := by simp [condP]
              rw [cp]
              cases ha : isNum a 0 36500 with
              | false => simp [F__law_is_condition, B__law_is_condition, law_number_, ha]
              | true =>
                cases hb : isNum b 0 36500 with
                | false => simp [F__law_is_condition, B__law_is_condition, law_number_, ha, hb]
                | true =>
                  obtain ⟨i, rfl⟩ := isNum_int ha
                  obtain ⟨j, rfl⟩ := isNum_int hb
                  by_cases hij : i ≤ j <;> simp [F__law_is_condition, B__law_is_condition, law_number_, ha, hb, leI, hij]
            | a :: b :: c :: r, k0, hr, h =>
              have hl : ((r.length : Int) + 1 + 1 + 1 + 1 == 3) = false := by simp; omega
              have k1 : ¬ ((r.length : Int) + 1 + 1 + 1 + 1 < 1) := by omega
              simp [F__law_is_condition, B__law_is_condition, condP, hl, k1]
          · have b9 := beq_ne e3
            by_cases e2 : w = "peril" ∨ w = "place" ∨ w = "object"
            · have cp : condP (.tuple (.str w :: rest)) = (decide (1 ≤ rest.length) && (decide (rest.length ≤ 12) && rest.all isName)) := by
                rcases e2 with rfl | rfl | rfl <;> simp [condP]
              rw [cp]
              by_cases q1 : 1 ≤ rest.length
              · by_cases q2 : rest.length ≤ 12
                · have k1 : (2 : Int) ≤ (rest.length : Int) + 1 := by omega
                  have k2 : (rest.length : Int) + 1 ≤ 13 := by omega
                  have lc := names_lc (F := F__law_is_name) (fun d hd => law_name_ hd) (xs := rest) (s := .d (.tuple (.str w :: rest))) (fun x hx => hr.mem hx) (by omega) (e := eV 1) id (fun x _ => by simp)
                  rw [List.map_id] at lc
                  have en : ((((rest.filter fun x => !isName x).length : Nat) : Int) == 0) = rest.all isName := by
                    rw [← filt_nil]
                    cases (rest.filter fun x => !isName x) with
                    | nil => rfl
                    | cons a l => simp; omega
                  generalize (rest.filter fun x => !isName x) = fl at *
                  rcases e2 with rfl | rfl | rfl <;> simp [F__law_is_condition, B__law_is_condition, k0, k1, k2, q1, q2, lc, en]
                · have k2 : ¬ (rest.length : Int) + 1 ≤ 13 := by omega
                  have k1 : (2 : Int) ≤ (rest.length : Int) + 1 := by omega
                  rcases e2 with rfl | rfl | rfl <;> simp [F__law_is_condition, B__law_is_condition, k0, k1, k2, q2]
              · have k1 : rest = [] := by
                  cases rest with
                  | nil => rfl
                  | cons a l => simp at q1
                subst k1
                rcases e2 with rfl | rfl | rfl <;> simp [F__law_is_condition, B__law_is_condition]
            · simp only [not_or] at e2
              obtain ⟨f1, f2, f3⟩ := e2
              have b6 := beq_ne f1
              have b7 := beq_ne f2
              have b8 := beq_ne f3
              have cp : condP (.tuple (.str w :: rest)) = false := by simp [condP, e1, e3, f1, f2, f3]
              rw [cp]
              simp [F__law_is_condition, B__law_is_condition, k0, b5, b6, b7, b8, b9, ninD_eq]
      · have hn : isaD "str" x0 = false := isa_str_ne fun w e => hs ⟨w, e⟩
        have cp : condP (.tuple (x0 :: rest)) = false := by
          cases x0 with
          | str w => exact absurd ⟨w, rfl⟩ hs
          | _ => rfl
        simp [F__law_is_condition, B__law_is_condition, cp, k0, hn]
  | _ => simp [F__law_is_condition, B__law_is_condition, isaD, condP]
def isPair (x : D) : Bool := match x with
  | .tuple [a, _] => isName a
  | _ => false
def fstS (x : D) : Str := match x with
  | .tuple (.str w :: _) => w
  | _ => ""
def arePairs (d : D) (lo hi : Int) : Bool := match d with
  | .tuple xs => decide (lo ≤ (xs.length : Int)) && (decide ((xs.length : Int) ≤ hi) && (xs.all isPair && unl (xs.map fstS)))
  | _ => false
theorem isName_str {d : D} (h : isName d = true) : ∃ w, d = .str w := by
  cases d with
  | str w => exact ⟨w, rfl⟩
  | _ => simp [isName] at h
theorem isTup2 {x : D} (h : isTup x 2 2 = true) : ∃ a b, x = .tuple [a, b] := by
  cases x with
  | tuple xs =>
    simp [isTup] at h
    match xs, h with
    | [a, b], _ => exact ⟨a, b, rfl⟩
    | [], h => simp at h
    | [a], h => simp at h
    | a :: b :: c :: r, h => simp at h; omega
  | _ => simp [isTup] at h
theorem isPair_of {x : D} (h : isPair x = true) : ∃ w b, x = .tuple [.str w, b] ∧ fstS x = w := by
  cases x with
  | tuple xs =>
    match xs, h with
    | [a, b], h =>
      obtain ⟨w, rfl⟩ := isName_str (show isName a = true from h)
      exact ⟨w, b, rfl, rfl⟩
    | [], h => simp [isPair] at h
    | [a], h => simp [isPair] at h
    | a :: b :: c :: r, h => simp [isPair] at h
  | _ => simp [isPair] at h
theorem isPair_tup {x : D} (h : isTup x 2 2 = false) : isPair x = false := by
  cases x with
  | tuple xs =>
    match xs, h with
    | [a, b], h => simp [isTup] at h
    | [], h => rfl
    | [a], h => rfl
    | a :: b :: c :: r, h => rfl
  | _ => rfl
theorem are_pairs_ {p : Str → Bool} {d : D} (h : Sane p d) (lo hi : Int) (hh : hi ≤ 1000) : F_are_pairs [.d d, .d (.int lo), .d (.int hi)] [] = .ok (.d (.bool (arePairs d lo hi))) [] := by
  by_cases q : isTup d lo hi = true
  · cases d with
    | tuple xs =>
      have q' : lo ≤ (xs.length : Int) ∧ (xs.length : Int) ≤ hi := by simpa [isTup] using q
      have lc := lcL_pure (cs := []) (tg := gtN 3) (t := tOrM (tNotM (tT (eFrz (eCall F_is_tuple (aCons (eV 3) (aCons (eC (.int (2))) (aCons (eC (.int (2))) aNil))))))) (tNotM (tT (eFrz (eCall F_is_name (aCons (eBin ixD (eV 3) (eC (.int (0)))) aNil)))))) (f := eV 3) (ρ := [.d (.tuple xs), .d (.int lo), .d (.int hi), .no])
        (fun y => [.d (.tuple xs), .d (.int lo), .d (.int hi), .d y]) (fun x => !isPair x) id xs [] (fun x hx => by
          refine ⟨rfl, ?_, fun _ => by simp⟩
          cases ht : isTup x 2 2 with
          | false => simp [is_tuple_, ht, isPair_tup ht]
          | true =>
            obtain ⟨a, b, rfl⟩ := isTup2 ht
            have ha := is_name_ ((h.mem hx).mem (x := a) (by simp))
            simp [is_tuple_, ht, ha, isPair]) (by simp; exact size_ok (by omega))
      rw [List.nil_append, List.map_id] at lc
      have ef : (xs.filter fun x => !isPair x).isEmpty = xs.all isPair := filt_nil isPair
      cases hp : xs.all isPair with
      | false =>
        rw [hp] at ef
        have ar : arePairs (.tuple xs) lo hi = false := by simp [arePairs, hp]
        rw [ar]
        generalize (xs.filter fun x => !isPair x) = fl at *
        simp [F_are_pairs, B_are_pairs, is_tuple_, q, lc, ef]
      | true =>
        rw [hp] at ef
        have ar : arePairs (.tuple xs) lo hi = unl (xs.map fstS) := by simp [arePairs, hp, q']
        rw [ar]
        have lc2 := lcL_pure (cs := []) (tg := gtN 3) (t := tYesM) (f := eBin ixD (eV 3) (eC (.int (0)))) (ρ := [.d (.tuple xs), .d (.int lo), .d (.int hi), .no])
          (fun y => [.d (.tuple xs), .d (.int lo), .d (.int hi), .d y]) (fun _ => true) (fun x => .str (fstS x)) xs [] (fun x hx => by
            obtain ⟨w, b, rfl, e⟩ := isPair_of (List.all_eq_true.1 hp x hx)
            exact ⟨rfl, rfl, fun _ => by simp [e]⟩) (by simp; exact size_ok (by omega))
        have ft : xs.filter (fun _ => true) = xs := List.filter_eq_self.2 fun _ _ => rfl
        rw [List.nil_append, ft] at lc2
        have ul := are_unlike_ (xs.map fstS) (by rw [List.length_map]; omega)
        rw [List.map_map] at ul
        have em : xs.map (PyData.str ∘ fstS) = xs.map fun x => .str (fstS x) := rfl
        rw [em] at ul
        generalize (xs.map fun x => PyData.str (fstS x)) = gl at *
        generalize (xs.filter fun x => !isPair x) = fl at *
        simp [F_are_pairs, B_are_pairs, is_tuple_, q, lc, ef, lc2, ul]
    | _ => simp [isTup] at q
  · have q2 : isTup d lo hi = false := by simpa using q
    have ar : arePairs d lo hi = false := by
      cases d with
      | tuple xs =>
        have q' : (decide (lo ≤ (xs.length : Int)) && decide ((xs.length : Int) ≤ hi)) = false := q2
        simp only [arePairs]
        rw [← Bool.and_assoc, q', Bool.false_and]
      | _ => rfl
    rw [ar]
    simp [F_are_pairs, B_are_pairs, is_tuple_, q2]
theorem pairs_loop {p : Str → Bool} (s0 s1 s2 : S) : ∀ (xs : List D) (acc : List Str) (s4 : S), (∀ x ∈ xs, Sane p x) → acc.length + xs.length ≤ 100000 →
    (xs.all isPair = true ∧ ∃ s4', gFor (gtN 4) (gSeq (sIf (tOrM (tNotM (tT (eIsa "tuple" (eV 4)))) (tOrM (op2 neD (eCd lenG (aCons (eV 4) aNil)) (eC (.int (2)))) (tNotM (tT (eFrz (eCall F__law_is_name (aCons (eBin ixD (eV 4) (eC (.int (0)))) aNil))))))) (sRet (eRv (eC (.bool false)))) gNil)
      (sExp (eMt appG (eV 3) (aCons (eBin ixD (eV 4) (eC (.int (0)))) aNil)))) xs [s0, s1, s2, .cel 0, s4] [.lst (acc.map .str)] = .nx [s0, s1, s2, .cel 0, s4'] [.lst ((acc ++ xs.map fstS).map .str)]) ∨
    (xs.all isPair = false ∧ ∃ cs', gFor (gtN 4) (gSeq (sIf (tOrM (tNotM (tT (eIsa "tuple" (eV 4)))) (tOrM (op2 neD (eCd lenG (aCons (eV 4) aNil)) (eC (.int (2)))) (tNotM (tT (eFrz (eCall F__law_is_name (aCons (eBin ixD (eV 4) (eC (.int (0)))) aNil))))))) (sRet (eRv (eC (.bool false)))) gNil)
      (sExp (eMt appG (eV 3) (aCons (eBin ixD (eV 4) (eC (.int (0)))) aNil)))) xs [s0, s1, s2, .cel 0, s4] [.lst (acc.map .str)] = .rt (.d (.bool false)) cs')
  | [], acc, s4, _, _ => .inl ⟨rfl, s4, by simp⟩
  | x :: xs, acc, s4, h, hl => by
    simp only [List.length_cons] at hl
    have l1 : acc.length < sizeLine := size_lt (by omega)
    have l2 : acc.length ≤ sizeLine := size_ok (by omega)
    by_cases ht : isTup x 2 2 = true
    · obtain ⟨a, b, rfl⟩ := isTup2 ht
      have ha := law_name_ ((h (.tuple [a, b]) (by simp)).mem (x := a) (by simp))
      cases hn : isName a with
      | true =>
        obtain ⟨w, rfl⟩ := isName_str hn
        rw [hn] at ha
        have ef : fstS (.tuple [.str w, b]) = w := rfl
        have ei : isPair (.tuple [.str w, b]) = true := hn
        rcases pairs_loop s0 s1 s2 xs (acc ++ [w]) (.d (.tuple [.str w, b])) (fun y hy => h y (by simp [hy])) (by simp; omega) with ⟨k1, s4', k2⟩ | ⟨k1, cs', k2⟩
        · refine .inl ⟨by simp [k1, ei], s4', ?_⟩
          rw [gFor_cons]
          simp at k2
          simp [ha, l1, l2, k2, ef]
        · refine .inr ⟨by simp [k1], cs', ?_⟩
          rw [gFor_cons]
          simp at k2
          simp [ha, l1, l2, k2]
      | false =>
        rw [hn] at ha
        refine .inr ⟨by simp [isPair, hn], [.lst (acc.map .str)], ?_⟩
        rw [gFor_cons]
        simp [ha]
    · have ht' : isTup x 2 2 = false := by simpa using ht
      refine .inr ⟨by simp [isPair_tup ht'], [.lst (acc.map .str)], ?_⟩
      rw [gFor_cons]
      cases x with
      | tuple ys =>
        have hn : ((ys.length : Int) == 2) = false := by
          simp [isTup] at ht'
          simp; omega
        simp [hn]
      | _ => simp [isaD]
theorem law_pairs_ {p : Str → Bool} {d : D} (h : Sane p d) (lo hi : Int) (hh : hi ≤ 1000) : F__law_are_pairs [.d d, .d (.int lo), .d (.int hi)] [] = .ok (.d (.bool (arePairs d lo hi))) [] := by
  cases d with
  | tuple xs =>
    by_cases q1 : lo ≤ (xs.length : Int)
    · by_cases q2 : (xs.length : Int) ≤ hi
      · have hl := pairs_loop (p := p) (.d (.tuple xs)) (.d (.int lo)) (.d (.int hi)) xs [] .no (fun x hx => h.mem hx) (by simp; omega)
        rcases hl with ⟨k1, s4', k2⟩ | ⟨k1, cs', k2⟩
        · have ar : arePairs (.tuple xs) lo hi = unl (xs.map fstS) := by simp [arePairs, k1, q1, q2]
          have ul := fm_unl (xs.map fstS)
          have ky := kysD_str (xs.map fstS)
          rw [ar, ← ul]
          rw [List.length_map] at ul ⊢
          simp only [List.nil_append, List.map_nil] at k2
          have l3 : (xs.map fstS).length < 4000 := by rw [List.length_map]; omega
          generalize hg : xs.map fstS = gl at *
          have l4 : gl.length = xs.length := by rw [← hg, List.length_map]
          have l5 : ((List.map Sum.inr gl : List Key)).length < 4000 := by rw [List.length_map]; exact l3
          simp [F__law_are_pairs, B__law_are_pairs, q1, q2, k2, ky, l3, l4, (by omega : xs.length < 4000)]
          rw [Bool.eq_iff_iff]
          simp
          omega
        · have ar : arePairs (.tuple xs) lo hi = false := by simp [arePairs, k1]
          rw [ar]
          simp only [List.map_nil] at k2
          simp [F__law_are_pairs, B__law_are_pairs, q1, q2, k2]
      · have ar : arePairs (.tuple xs) lo hi = false := by simp [arePairs, q2]
        rw [ar]
        simp [F__law_are_pairs, B__law_are_pairs, q1, q2]
    · have ar : arePairs (.tuple xs) lo hi = false := by simp [arePairs, q1]
      rw [ar]
      simp [F__law_are_pairs, B__law_are_pairs, q1]
  | _ => simp [F__law_are_pairs, B__law_are_pairs, isaD, arePairs]
def inS (x : D) (l : List Str) : Bool := match x with
  | .str w => decide (w ∈ l)
  | _ => false
theorem all_flat (l : List Str) : (l.map PyData.str).all flatD = true := by
  induction l with
  | nil => rfl
  | cons x l ih => simp [ih]
theorem any_eqv (x : D) (l : List Str) : ((l.map PyData.str).any fun y => PyData.eqv y x) = inS x l := by
  induction l with
  | nil => cases x <;> rfl
  | cons y l ih =>
    rw [List.map_cons, List.any_cons, ih]
    cases x with
    | str w =>
      simp only [eqv_str, inS]
      by_cases e : y = w
      · subst e; simp
      · have e' : ¬ w = y := fun z => e z.symm
        simp [e, e']
    | _ => simp [PyData.eqv, inS]
theorem names_shaped {l : List Str} (h : ∀ w ∈ l, PyData.strOk w = true) : SeqAt.shaped (.list (l.map .str)) = true := by
  have a : PyData.canLayAll0 (l.map .str) = true ∧ PyData.depthAll (l.map .str) = 0 := by
    induction l with
    | nil => simp [PyData.canLayAll0, PyData.depthAll]
    | cons c l ih =>
      have := ih fun k hk => h k (by simp [hk])
      simp [PyData.canLayAll0, PyData.depthAll, this, PyData.canLay0, PyData.depth, h c (by simp)]
  simp [SeqAt.shaped, PyData.canLay0, PyData.depth, a]
theorem in_names {p : Str → Bool} {x : D} (h : Sane p x) {l : List Str} (hl : ∀ w ∈ l, PyData.strOk w = true) : inD x (.list (l.map .str)) = some (inS x l) := by
  rw [inD_lst, ← any_eqv]
  rw [if_pos]
  rw [h.sh, names_shaped hl]
  simp
theorem nin_names {p : Str → Bool} {x : D} (h : Sane p x) {l : List Str} (hl : ∀ w ∈ l, PyData.strOk w = true) : ninD x (.list (l.map .str)) = some (!(inS x l)) := ninD_of (in_names h hl)
def testP (ta : List Str) (t : D) : Bool := match t with
  | .tuple [n, a, b] => inS n ta && (isNum a 0 40 && isNum b 0 40)
  | _ => false
def addP (ta : List Str) (t : D) : Bool := match t with
  | .tuple [n, m] => inS n ta && isNum m (-40) 40
  | _ => false
def stepP (st ki ta : List Str) (s : D) : Bool := match s with
  | .tuple [a, b, .tuple ts, c, .tuple as, e] => inS a st && (inS b ki && (inS c st && (ts.all (testP ta) && (as.all (addP ta) && (unl (as.map fstS) && isNum e (-1000000000) 1000000000)))))
  | _ => false
theorem isTup3 {x : D} (h : isTup x 3 3 = true) : ∃ a b c, x = .tuple [a, b, c] := by
  cases x with
  | tuple xs =>
    simp [isTup] at h
    match xs, h with
    | [a, b, c], _ => exact ⟨a, b, c, rfl⟩
    | [], h => simp at h
    | [a], h => simp at h
    | [a, b], h => simp at h
    | a :: b :: c :: d :: r, h => simp at h; omega
  | _ => simp [isTup] at h
theorem isTup6 {x : D} (h : isTup x 6 6 = true) : ∃ a b c d e f, x = .tuple [a, b, c, d, e, f] := by
  cases x with
  | tuple xs =>
    simp [isTup] at h
    match xs, h with
    | [a, b, c, d, e, f], _ => exact ⟨a, b, c, d, e, f, rfl⟩
    | [], h => simp at h
    | [a], h => simp at h
    | [a, b], h => simp at h
    | [a, b, c], h => simp at h
    | [a, b, c, d], h => simp at h
    | [a, b, c, d, e], h => simp at h
    | a :: b :: c :: d :: e :: f :: g :: r, h => simp at h; omega
  | _ => simp [isTup] at h
theorem test_no {ta : List Str} {x : D} (h : isTup x 3 3 = false) : testP ta x = false := by
  cases x with
  | tuple xs =>
    match xs, h with
    | [a, b, c], h => simp [isTup] at h
    | [], h => rfl
    | [a], h => rfl
    | [a, b], h => rfl
    | a :: b :: c :: d :: r, h => rfl
  | _ => rfl
theorem add_no {ta : List Str} {x : D} (h : isTup x 2 2 = false) : addP ta x = false := by
  cases x with
  | tuple xs =>
    match xs, h with
    | [a, b], h => simp [isTup] at h
    | [], h => rfl
    | [a], h => rfl
    | a :: b :: d :: r, h => rfl
  | _ => rfl
theorem step_no {st ki ta : List Str} {x : D} (h : isTup x 6 6 = false) : stepP st ki ta x = false := by
  cases x with
  | tuple xs =>
    match xs, h with
    | [a, b, c, d, e, f], h => simp [isTup] at h
    | [], h => rfl
    | [a], h => rfl
    | [a, b], h => rfl
    | [a, b, c], h => cases c <;> rfl
    | [a, b, c, d], h => cases c <;> rfl
    | [a, b, c, d, e], h => cases c <;> first | rfl | (cases e <;> rfl)
    | a :: b :: c :: d :: e :: f :: g :: r, h => cases c <;> first | rfl | (cases e <;> rfl)
  | _ => rfl
section
variable {p : Str → Bool} {st ki ta : List Str} (hta : ∀ w ∈ ta, PyData.strOk w = true)
include hta
theorem tests_loop (s0 s1 s2 s4 s5 : S) {ts : List D} (h : ∀ x ∈ ts, Sane p x) : (ts.all (testP ta) = true ∧ ∃ s4', gFor (gtN 4) (gSeq (sIf (tOrM (tNotM (tT (eFrz (eCall F_is_tuple (aCons (eV 4) (aCons (eC (.int (3))) (aCons (eC (.int (3))) aNil))))))) (op2 ninD (eBin ixD (eV 4) (eC (.int (0)))) (eV 3))) (sRet (eRv (eC (.bool false)))) gNil)
      (sIf (tOrM (tNotM (tT (eFrz (eCall F_is_number (aCons (eBin ixD (eV 4) (eC (.int (1)))) (aCons (eC (.int (0))) (aCons (eC (.int (40))) aNil))))))) (tNotM (tT (eFrz (eCall F_is_number (aCons (eBin ixD (eV 4) (eC (.int (2)))) (aCons (eC (.int (0))) (aCons (eC (.int (40))) aNil)))))))) (sRet (eRv (eC (.bool false)))) gNil)) ts [s0, s1, s2, .d (.list (ta.map .str)), s4, s5] [] = .nx [s0, s1, s2, .d (.list (ta.map .str)), s4', s5] []) ∨
    (ts.all (testP ta) = false ∧ gFor (gtN 4) (gSeq (sIf (tOrM (tNotM (tT (eFrz (eCall F_is_tuple (aCons (eV 4) (aCons (eC (.int (3))) (aCons (eC (.int (3))) aNil))))))) (op2 ninD (eBin ixD (eV 4) (eC (.int (0)))) (eV 3))) (sRet (eRv (eC (.bool false)))) gNil)
      (sIf (tOrM (tNotM (tT (eFrz (eCall F_is_number (aCons (eBin ixD (eV 4) (eC (.int (1)))) (aCons (eC (.int (0))) (aCons (eC (.int (40))) aNil))))))) (tNotM (tT (eFrz (eCall F_is_number (aCons (eBin ixD (eV 4) (eC (.int (2)))) (aCons (eC (.int (0))) (aCons (eC (.int (40))) aNil)))))))) (sRet (eRv (eC (.bool false)))) gNil)) ts [s0, s1, s2, .d (.list (ta.map .str)), s4, s5] [] = .rt (.d (.bool false)) []) := by
  rcases gFor_all (cs := []) (tg := gtN 4) (body := (gSeq (sIf (tOrM (tNotM (tT (eFrz (eCall F_is_tuple (aCons (eV 4) (aCons (eC (.int (3))) (aCons (eC (.int (3))) aNil))))))) (op2 ninD (eBin ixD (eV 4) (eC (.int (0)))) (eV 3))) (sRet (eRv (eC (.bool false)))) gNil)
      (sIf (tOrM (tNotM (tT (eFrz (eCall F_is_number (aCons (eBin ixD (eV 4) (eC (.int (1)))) (aCons (eC (.int (0))) (aCons (eC (.int (40))) aNil))))))) (tNotM (tT (eFrz (eCall F_is_number (aCons (eBin ixD (eV 4) (eC (.int (2)))) (aCons (eC (.int (0))) (aCons (eC (.int (40))) aNil)))))))) (sRet (eRv (eC (.bool false)))) gNil))) (testP ta) (.d (.bool false)) (fun ρ => ∃ s4', ρ = [s0, s1, s2, .d (.list (ta.map .str)), s4', s5]) ts [s0, s1, s2, .d (.list (ta.map .str)), s4, s5] ⟨s4, rfl⟩ (fun x hx ρ1 hρ => by
    obtain ⟨s4', rfl⟩ := hρ
    refine ⟨[s0, s1, s2, .d (.list (ta.map .str)), .d x, s5], rfl, ?_⟩
    cases ht : isTup x 3 3 with
    | false => exact .inr ⟨test_no ht, by simp [is_tuple_, ht]⟩
    | true =>
      obtain ⟨a, b, c, rfl⟩ := isTup3 ht
      have i1 := nin_names ((h _ hx).mem (x := a) (by simp)) hta
      cases e1 : inS a ta with
      | false => exact .inr ⟨by simp [testP, e1], by simp [is_tuple_, ht, i1, e1]⟩
      | true =>
        cases e2 : isNum b 0 40 with
        | false => exact .inr ⟨by simp [testP, e2], by simp [is_tuple_, is_number_, ht, i1, e1, e2]⟩
        | true =>
          cases e3 : isNum c 0 40 with
          | false => exact .inr ⟨by simp [testP, e3], by simp [is_tuple_, is_number_, ht, i1, e1, e2, e3]⟩
          | true => exact .inl ⟨by simp [testP, e1, e2, e3], _, by simp [is_tuple_, is_number_, ht, i1, e1, e2, e3]; rfl, _, rfl⟩) with ⟨k1, ρ', k2, s4', rfl⟩ | ⟨k1, k2⟩
  · exact .inl ⟨k1, s4', k2⟩
  · exact .inr ⟨k1, k2⟩
theorem adds_loop (s0 s1 s2 s4 s5 : S) {ts : List D} (h : ∀ x ∈ ts, Sane p x) : (ts.all (addP ta) = true ∧ ∃ s5', gFor (gtN 5) (sIf (tOrM (tNotM (tT (eFrz (eCall F_is_tuple (aCons (eV 5) (aCons (eC (.int (2))) (aCons (eC (.int (2))) aNil))))))) (tOrM (op2 ninD (eBin ixD (eV 5) (eC (.int (0)))) (eV 3)) (tNotM (tT (eFrz (eCall F_is_number (aCons (eBin ixD (eV 5) (eC (.int (1)))) (aCons (eNeg (eC (.int (40)))) (aCons (eC (.int (40))) aNil))))))))) (sRet (eRv (eC (.bool false)))) gNil) ts [s0, s1, s2, .d (.list (ta.map .str)), s4, s5] [] = .nx [s0, s1, s2, .d (.list (ta.map .str)), s4, s5'] []) ∨
    (ts.all (addP ta) = false ∧ gFor (gtN 5) (sIf (tOrM (tNotM (tT (eFrz (eCall F_is_tuple (aCons (eV 5) (aCons (eC (.int (2))) (aCons (eC (.int (2))) aNil))))))) (tOrM (op2 ninD (eBin ixD (eV 5) (eC (.int (0)))) (eV 3)) (tNotM (tT (eFrz (eCall F_is_number (aCons (eBin ixD (eV 5) (eC (.int (1)))) (aCons (eNeg (eC (.int (40)))) (aCons (eC (.int (40))) aNil))))))))) (sRet (eRv (eC (.bool false)))) gNil) ts [s0, s1, s2, .d (.list (ta.map .str)), s4, s5] [] = .rt (.d (.bool false)) []) := by
  rcases gFor_all (cs := []) (tg := gtN 5) (body := (sIf (tOrM (tNotM (tT (eFrz (eCall F_is_tuple (aCons (eV 5) (aCons (eC (.int (2))) (aCons (eC (.int (2))) aNil))))))) (tOrM (op2 ninD (eBin ixD (eV 5) (eC (.int (0)))) (eV 3)) (tNotM (tT (eFrz (eCall F_is_number (aCons (eBin ixD (eV 5) (eC (.int (1)))) (aCons (eNeg (eC (.int (40)))) (aCons (eC (.int (40))) aNil))))))))) (sRet (eRv (eC (.bool false)))) gNil)) (addP ta) (.d (.bool false)) (fun ρ => ∃ s5', ρ = [s0, s1, s2, .d (.list (ta.map .str)), s4, s5']) ts [s0, s1, s2, .d (.list (ta.map .str)), s4, s5] ⟨s5, rfl⟩ (fun x hx ρ1 hρ => by
    obtain ⟨s5', rfl⟩ := hρ
    refine ⟨[s0, s1, s2, .d (.list (ta.map .str)), s4, .d x], rfl, ?_⟩
    cases ht : isTup x 2 2 with
    | false => exact .inr ⟨add_no ht, by simp [is_tuple_, ht]⟩
    | true =>
      obtain ⟨a, b, rfl⟩ := isTup2 ht
      have i1 := nin_names ((h _ hx).mem (x := a) (by simp)) hta
      cases e1 : inS a ta with
      | false => exact .inr ⟨by simp [addP, e1], by simp [is_tuple_, ht, i1, e1]⟩
      | true =>
        cases e2 : isNum b (-40) 40 with
        | false => exact .inr ⟨by simp [addP, e2], by simp [is_tuple_, is_number_, ht, i1, e1, e2]⟩
        | true => exact .inl ⟨by simp [addP, e1, e2], _, by simp [is_tuple_, is_number_, ht, i1, e1, e2]; rfl, _, rfl⟩) with ⟨k1, ρ', k2, s4', rfl⟩ | ⟨k1, k2⟩
  · exact .inl ⟨k1, s4', k2⟩
  · exact .inr ⟨k1, k2⟩
end
theorem inS_str {x : D} {l : List Str} (h : inS x l = true) : ∃ w, x = .str w ∧ w ∈ l := by
  cases x with
  | str w => exact ⟨w, rfl, by simpa [inS] using h⟩
  | _ => simp [inS] at h
theorem addP_of {ta : List Str} {x : D} (h : addP ta x = true) : ∃ w b, x = .tuple [.str w, b] ∧ fstS x = w ∧ w ∈ ta ∧ isNum b (-40) 40 = true := by
  by_cases ht : isTup x 2 2 = true
  · obtain ⟨a, b, rfl⟩ := isTup2 ht
    simp only [addP, Bool.and_eq_true] at h
    obtain ⟨w, rfl, hw⟩ := inS_str h.1
    exact ⟨w, b, rfl, rfl, hw, h.2⟩
  · rw [add_no (by simpa using ht)] at h; cases h
section
variable {p : Str → Bool} {st ki ta : List Str} (hst : ∀ w ∈ st, PyData.strOk w = true) (hki : ∀ w ∈ ki, PyData.strOk w = true) (hta : ∀ w ∈ ta, PyData.strOk w = true)
include hst hki hta
theorem is_step_ {s : D} (h : Sane p s) (hz : ∀ a b c d as e, s = .tuple [a, b, c, d, .tuple as, e] → as.length < 4000) : F_is_step [.d s, .d (.list (st.map .str)), .d (.list (ki.map .str)), .d (.list (ta.map .str))] [] = .ok (.d (.bool (stepP st ki ta s))) [] := by
  by_cases h6 : isTup s 6 6 = true
  · obtain ⟨a, b, c, d, e, f, rfl⟩ := isTup6 h6
    have ia := nin_names (h.mem (x := a) (by simp)) hst
    have ib := nin_names (h.mem (x := b) (by simp)) hki
    have id' := nin_names (h.mem (x := d) (by simp)) hst
    cases e1 : inS a st with
    | false =>
      have sp : stepP st ki ta (.tuple [a, b, c, d, e, f]) = false := by cases c <;> first | rfl | (cases e <;> first | rfl | simp [stepP, e1])
      rw [sp]
      simp [F_is_step, B_is_step, is_tuple_, h6, ia, e1]
    | true =>
      cases e2 : inS b ki with
      | false =>
        have sp : stepP st ki ta (.tuple [a, b, c, d, e, f]) = false := by cases c <;> first | rfl | (cases e <;> first | rfl | simp [stepP, e2])
        rw [sp]
        simp [F_is_step, B_is_step, is_tuple_, h6, ia, e1, ib, e2]
      | true =>
        cases e3 : inS d st with
        | false =>
          have sp : stepP st ki ta (.tuple [a, b, c, d, e, f]) = false := by cases c <;> first | rfl | (cases e <;> first | rfl | simp [stepP, e3])
          rw [sp]
          simp [F_is_step, B_is_step, is_tuple_, h6, ia, e1, ib, e2, id', e3]
        | true =>
          by_cases tc : ∃ ts, c = .tuple ts
          · obtain ⟨ts, rfl⟩ := tc
            by_cases te : ∃ as, e = .tuple as
            · obtain ⟨as, rfl⟩ := te
              have hts : ∀ x ∈ ts, Sane p x := fun x hx => (h.mem (x := .tuple ts) (by simp)).mem hx
              have has : ∀ x ∈ as, Sane p x := fun x hx => (h.mem (x := .tuple as) (by simp)).mem hx
              have hlen := hz a b (.tuple ts) d as f rfl
              rcases tests_loop hta (.d (.tuple [a, b, .tuple ts, d, .tuple as, f])) (.d (.list (st.map .str))) (.d (.list (ki.map .str))) .no .no hts with ⟨k1, s4, k2⟩ | ⟨k1, k2⟩
              · rcases adds_loop hta (.d (.tuple [a, b, .tuple ts, d, .tuple as, f])) (.d (.list (st.map .str))) (.d (.list (ki.map .str))) s4 .no has with ⟨m1, s5, m2⟩ | ⟨m1, m2⟩
                · have sp : stepP st ki ta (.tuple [a, b, .tuple ts, d, .tuple as, f]) = (unl (as.map fstS) && isNum f (-1000000000) 1000000000) := by simp [stepP, e1, e2, e3, k1, m1]
                  rw [sp]
                  have lc2 := lcL_pure (cs := []) (tg := gtN 5) (t := tYesM) (f := eBin ixD (eV 5) (eC (.int (0)))) (ρ := [.d (.tuple [a, b, .tuple ts, d, .tuple as, f]), .d (.list (st.map .str)), .d (.list (ki.map .str)), .d (.list (ta.map .str)), s4, .no])
                    (fun y => [.d (.tuple [a, b, .tuple ts, d, .tuple as, f]), .d (.list (st.map .str)), .d (.list (ki.map .str)), .d (.list (ta.map .str)), s4, .d y]) (fun _ => true) (fun x => .str (fstS x)) as [] (fun x hx => by
                      obtain ⟨w, b, rfl, e, _⟩ := addP_of (List.all_eq_true.1 m1 x hx)
                      exact ⟨rfl, rfl, fun _ => by simp [e]⟩) (by simp; exact size_ok (by omega))
                  have ft : as.filter (fun _ => true) = as := List.filter_eq_self.2 fun _ _ => rfl
                  rw [List.nil_append, ft] at lc2
                  have ul := are_unlike_ (as.map fstS) (by rw [List.length_map]; omega)
                  rw [List.map_map] at ul
                  have em : as.map (PyData.str ∘ fstS) = as.map fun x => .str (fstS x) := rfl
                  rw [em] at ul
                  generalize unl (as.map fstS) = uv at *
                  generalize (as.map fun x => PyData.str (fstS x)) = gl at *
                  cases uv <;> simp [F_is_step, B_is_step, is_tuple_, is_number_, h6, ia, e1, ib, e2, id', e3, k2, m2, lc2, ul]
                · have sp : stepP st ki ta (.tuple [a, b, .tuple ts, d, .tuple as, f]) = false := by simp [stepP, m1]
                  rw [sp]
                  simp [F_is_step, B_is_step, is_tuple_, is_number_, h6, ia, e1, ib, e2, id', e3, k2, m2]
              · have sp : stepP st ki ta (.tuple [a, b, .tuple ts, d, .tuple as, f]) = false := by simp [stepP, k1]
                rw [sp]
                simp [F_is_step, B_is_step, is_tuple_, is_number_, h6, ia, e1, ib, e2, id', e3, k2]
            · have sp : stepP st ki ta (.tuple [a, b, .tuple ts, d, e, f]) = false := by
                cases e with
                | tuple as => exact absurd ⟨as, rfl⟩ te
                | _ => rfl
              have ne := isa_tuple_ne (d := e) fun as z => te ⟨as, z⟩
              rw [sp]
              simp [F_is_step, B_is_step, is_tuple_, is_number_, h6, ia, e1, ib, e2, id', e3, ne]
          · have sp : stepP st ki ta (.tuple [a, b, c, d, e, f]) = false := by
              cases c with
              | tuple as => exact absurd ⟨as, rfl⟩ tc
              | _ => rfl
            have ne := isa_tuple_ne (d := c) fun as z => tc ⟨as, z⟩
            rw [sp]
            simp [F_is_step, B_is_step, is_tuple_, is_number_, h6, ia, e1, ib, e2, id', e3, ne]
  · have h6' : isTup s 6 6 = false := by simpa using h6
    rw [step_no h6']
    simp [F_is_step, B_is_step, is_tuple_, h6']
end
theorem pigeon : ∀ (l m : List Str), l.Nodup → (∀ x ∈ l, x ∈ m) → l.length ≤ m.length
  | [], m, _, _ => Nat.zero_le _
  | x :: l, m, hn, h => by
    rw [List.nodup_cons] at hn
    have hx := h x (by simp)
    have ih := pigeon l (m.erase x) hn.2 fun y hy => by
      have ne : y ≠ x := fun z => hn.1 (z ▸ hy)
      exact (List.mem_erase_of_ne ne).2 (h y (by simp [hy]))
    rw [List.length_erase_of_mem hx] at ih
    have : 0 < m.length := List.length_pos_of_mem hx
    rw [List.length_cons]
    omega
theorem arePairs_adds {ta : List Str} (hta : ∀ w ∈ ta, isName (.str w) = true) (h3 : ta.length ≤ 3) (as : List D) : (arePairs (.tuple as) 0 3 && as.all (addP ta)) = (as.all (addP ta) && unl (as.map fstS)) := by
  cases ha : as.all (addP ta) with
  | false => simp
  | true =>
    have h1 : as.all isPair = true := List.all_eq_true.2 fun x hx => by
      obtain ⟨w, b, rfl, _, hw, _⟩ := addP_of (List.all_eq_true.1 ha x hx)
      exact hta w hw
    cases hu : unl (as.map fstS) with
    | false => simp [arePairs, hu]
    | true =>
      have le := pigeon (as.map fstS) ta ((unl_nodup _).1 hu) fun w hw => by
        obtain ⟨x, hx, rfl⟩ := List.mem_map.1 hw
        obtain ⟨w, b, rfl, e, hw, _⟩ := addP_of (List.all_eq_true.1 ha x hx)
        rw [e]; exact hw
      rw [List.length_map] at le
      have l1 : (as.length : Int) ≤ 3 := by omega
      have l0 : (0 : Int) ≤ as.length := by omega
      simp only [arePairs, h1, hu, decide_eq_true l1, decide_eq_true l0, Bool.and_self]
theorem inS_name {x : D} {l : List Str} (hl : ∀ w ∈ l, isName (.str w) = true) (h : isName x = false) : inS x l = false := by
  cases e : inS x l with
  | false => rfl
  | true =>
    obtain ⟨w, rfl, hw⟩ := inS_str e
    rw [hl w hw] at h; cases h
theorem isTup2F {x : D} : isTup x 2 2 = true ∨ isTup x 2 2 = false := by cases isTup x 2 2 <;> simp
theorem tup_len {xs : List D} {n : Int} : isTup (.tuple xs) n n = ((xs.length : Int) == n) := by
  rw [Bool.eq_iff_iff]
  simp [isTup]
  omega
section
variable {p : Str → Bool} {ta : List Str} (hta : ∀ w ∈ ta, PyData.strOk w = true) (nta : ∀ w ∈ ta, isName (.str w) = true)
include hta nta
theorem ltests_loop (s0 s1 s2 s4 s5 s6 s7 : S) {ts : List D} (h : ∀ x ∈ ts, Sane p x) : (ts.all (testP ta) = true ∧ ∃ s6', gFor (gtN 6) (gSeq (sIf (tOrM (tNotM (tT (eIsa "tuple" (eV 6)))) (tOrM (op2 neD (eCd lenG (aCons (eV 6) aNil)) (eC (.int (3)))) (tOrM (tNotM (tT (eFrz (eCall F__law_is_name (aCons (eBin ixD (eV 6) (eC (.int (0)))) aNil))))) (op2 ninD (eBin ixD (eV 6) (eC (.int (0)))) (eV 3))))) (sRet (eRv (eC (.bool false)))) gNil)
      (sIf (tOrM (tNotM (tT (eFrz (eCall F__law_is_number (aCons (eBin ixD (eV 6) (eC (.int (1)))) (aCons (eC (.int (0))) (aCons (eC (.int (40))) aNil))))))) (tNotM (tT (eFrz (eCall F__law_is_number (aCons (eBin ixD (eV 6) (eC (.int (2)))) (aCons (eC (.int (0))) (aCons (eC (.int (40))) aNil)))))))) (sRet (eRv (eC (.bool false)))) gNil)) ts [s0, s1, s2, .d (.list (ta.map .str)), s4, s5, s6, s7] [] = .nx [s0, s1, s2, .d (.list (ta.map .str)), s4, s5, s6', s7] []) ∨
    (ts.all (testP ta) = false ∧ gFor (gtN 6) (gSeq (sIf (tOrM (tNotM (tT (eIsa "tuple" (eV 6)))) (tOrM (op2 neD (eCd lenG (aCons (eV 6) aNil)) (eC (.int (3)))) (tOrM (tNotM (tT (eFrz (eCall F__law_is_name (aCons (eBin ixD (eV 6) (eC (.int (0)))) aNil))))) (op2 ninD (eBin ixD (eV 6) (eC (.int (0)))) (eV 3))))) (sRet (eRv (eC (.bool false)))) gNil)
      (sIf (tOrM (tNotM (tT (eFrz (eCall F__law_is_number (aCons (eBin ixD (eV 6) (eC (.int (1)))) (aCons (eC (.int (0))) (aCons (eC (.int (40))) aNil))))))) (tNotM (tT (eFrz (eCall F__law_is_number (aCons (eBin ixD (eV 6) (eC (.int (2)))) (aCons (eC (.int (0))) (aCons (eC (.int (40))) aNil)))))))) (sRet (eRv (eC (.bool false)))) gNil)) ts [s0, s1, s2, .d (.list (ta.map .str)), s4, s5, s6, s7] [] = .rt (.d (.bool false)) []) := by
  rcases gFor_all (cs := []) (tg := gtN 6) (body := (gSeq (sIf (tOrM (tNotM (tT (eIsa "tuple" (eV 6)))) (tOrM (op2 neD (eCd lenG (aCons (eV 6) aNil)) (eC (.int (3)))) (tOrM (tNotM (tT (eFrz (eCall F__law_is_name (aCons (eBin ixD (eV 6) (eC (.int (0)))) aNil))))) (op2 ninD (eBin ixD (eV 6) (eC (.int (0)))) (eV 3))))) (sRet (eRv (eC (.bool false)))) gNil)
      (sIf (tOrM (tNotM (tT (eFrz (eCall F__law_is_number (aCons (eBin ixD (eV 6) (eC (.int (1)))) (aCons (eC (.int (0))) (aCons (eC (.int (40))) aNil))))))) (tNotM (tT (eFrz (eCall F__law_is_number (aCons (eBin ixD (eV 6) (eC (.int (2)))) (aCons (eC (.int (0))) (aCons (eC (.int (40))) aNil)))))))) (sRet (eRv (eC (.bool false)))) gNil))) (testP ta) (.d (.bool false)) (fun ρ => ∃ s6', ρ = [s0, s1, s2, .d (.list (ta.map .str)), s4, s5, s6', s7]) ts [s0, s1, s2, .d (.list (ta.map .str)), s4, s5, s6, s7] ⟨s6, rfl⟩ (fun x hx ρ1 hρ => by
    obtain ⟨s6', rfl⟩ := hρ
    refine ⟨[s0, s1, s2, .d (.list (ta.map .str)), s4, s5, .d x, s7], rfl, ?_⟩
    cases ht : isTup x 3 3 with
    | false =>
      refine .inr ⟨test_no ht, ?_⟩
      cases x with
      | tuple xs =>
        rw [tup_len] at ht
        simp [ht]
      | _ => simp [isaD]
    | true =>
      obtain ⟨a, b, c, rfl⟩ := isTup3 ht
      have sa := (h _ hx).mem (x := a) (by simp)
      have i1 := nin_names sa hta
      have n1 := law_name_ sa
      cases e0 : isName a with
      | false => exact .inr ⟨by simp [testP, inS_name nta e0], by simp [n1, e0]⟩
      | true =>
        cases e1 : inS a ta with
        | false => exact .inr ⟨by simp [testP, e1], by simp [i1, e1, n1, e0]⟩
        | true =>
          cases e2 : isNum b 0 40 with
          | false => exact .inr ⟨by simp [testP, e2], by simp [law_number_, i1, e1, e2, n1, e0]⟩
          | true =>
            cases e3 : isNum c 0 40 with
            | false => exact .inr ⟨by simp [testP, e3], by simp [law_number_, i1, e1, e2, e3, n1, e0]⟩
            | true => exact .inl ⟨by simp [testP, e1, e2, e3], _, by simp [law_number_, i1, e1, e2, e3, n1, e0]; rfl, _, rfl⟩) with ⟨k1, ρ', k2, s6', rfl⟩ | ⟨k1, k2⟩
  · exact .inl ⟨k1, s6', k2⟩
  · exact .inr ⟨k1, k2⟩
theorem ladds_loop (s0 s1 s2 s4 s5 s6 s7 : S) {ts : List D} (h : ∀ x ∈ ts, Sane p x) (h2 : ∀ x ∈ ts, isTup x 2 2 = true) : (ts.all (addP ta) = true ∧ ∃ s4' s7', gFor (gtT (gtsCons (gtN 4) (gtsCons (gtN 7) gtsNil))) (sIf (tOrM (op2 ninD (eV 4) (eV 3)) (tNotM (tT (eFrz (eCall F__law_is_number (aCons (eV 7) (aCons (eNeg (eC (.int (40)))) (aCons (eC (.int (40))) aNil)))))))) (sRet (eRv (eC (.bool false)))) gNil) ts [s0, s1, s2, .d (.list (ta.map .str)), s4, s5, s6, s7] [] = .nx [s0, s1, s2, .d (.list (ta.map .str)), s4', s5, s6, s7'] []) ∨
    (ts.all (addP ta) = false ∧ gFor (gtT (gtsCons (gtN 4) (gtsCons (gtN 7) gtsNil))) (sIf (tOrM (op2 ninD (eV 4) (eV 3)) (tNotM (tT (eFrz (eCall F__law_is_number (aCons (eV 7) (aCons (eNeg (eC (.int (40)))) (aCons (eC (.int (40))) aNil)))))))) (sRet (eRv (eC (.bool false)))) gNil) ts [s0, s1, s2, .d (.list (ta.map .str)), s4, s5, s6, s7] [] = .rt (.d (.bool false)) []) := by
  rcases gFor_all (cs := []) (tg := gtT (gtsCons (gtN 4) (gtsCons (gtN 7) gtsNil))) (body := (sIf (tOrM (op2 ninD (eV 4) (eV 3)) (tNotM (tT (eFrz (eCall F__law_is_number (aCons (eV 7) (aCons (eNeg (eC (.int (40)))) (aCons (eC (.int (40))) aNil)))))))) (sRet (eRv (eC (.bool false)))) gNil)) (addP ta) (.d (.bool false)) (fun ρ => ∃ s4' s7', ρ = [s0, s1, s2, .d (.list (ta.map .str)), s4', s5, s6, s7']) ts [s0, s1, s2, .d (.list (ta.map .str)), s4, s5, s6, s7] ⟨s4, s7, rfl⟩ (fun x hx ρ1 hρ => by
    obtain ⟨s4', s7', rfl⟩ := hρ
    obtain ⟨a, b, rfl⟩ := isTup2 (h2 x hx)
    refine ⟨[s0, s1, s2, .d (.list (ta.map .str)), .d a, s5, s6, .d b], rfl, ?_⟩
    have i1 := nin_names ((h _ hx).mem (x := a) (by simp)) hta
    cases e1 : inS a ta with
    | false => exact .inr ⟨by simp [addP, e1], by simp [i1, e1]⟩
    | true =>
      cases e2 : isNum b (-40) 40 with
      | false => exact .inr ⟨by simp [addP, e2], by simp [law_number_, i1, e1, e2]⟩
      | true => exact .inl ⟨by simp [addP, e1, e2], [s0, s1, s2, .d (.list (ta.map .str)), .d a, s5, s6, .d b], by simp [law_number_, i1, e1, e2], _, _, rfl⟩) with ⟨k1, ρ', k2, s4', s7', rfl⟩ | ⟨k1, k2⟩
  · exact .inl ⟨k1, s4', s7', k2⟩
  · exact .inr ⟨k1, k2⟩
end
section
variable {p : Str → Bool} {st ki ta : List Str} (hst : ∀ w ∈ st, PyData.strOk w = true) (hki : ∀ w ∈ ki, PyData.strOk w = true) (hta : ∀ w ∈ ta, PyData.strOk w = true)
  (nst : ∀ w ∈ st, isName (.str w) = true) (nki : ∀ w ∈ ki, isName (.str w) = true) (nta : ∀ w ∈ ta, isName (.str w) = true)
include hst hki hta nst nki nta
theorem lhead_loop (s0 s3 s4 s5 s6 s7 : S) {a b d : D} (ha : Sane p a) (hb : Sane p b) (hd : Sane p d) :
    ((inS a st && (inS b ki && inS d st)) = true ∧ ∃ s4' s5', gFor (gtT (gtsCons (gtN 4) (gtsCons (gtN 5) gtsNil))) (sIf (tOrM (tNotM (tT (eFrz (eCall F__law_is_name (aCons (eV 4) aNil))))) (op2 ninD (eV 4) (eV 5))) (sRet (eRv (eC (.bool false)))) gNil) [.tuple [a, .list (st.map .str)], .tuple [b, .list (ki.map .str)], .tuple [d, .list (st.map .str)]] [s0, .d (.list (st.map .str)), .d (.list (ki.map .str)), s3, s4, s5, s6, s7] [] = .nx [s0, .d (.list (st.map .str)), .d (.list (ki.map .str)), s3, s4', s5', s6, s7] []) ∨
    ((inS a st && (inS b ki && inS d st)) = false ∧ gFor (gtT (gtsCons (gtN 4) (gtsCons (gtN 5) gtsNil))) (sIf (tOrM (tNotM (tT (eFrz (eCall F__law_is_name (aCons (eV 4) aNil))))) (op2 ninD (eV 4) (eV 5))) (sRet (eRv (eC (.bool false)))) gNil) [.tuple [a, .list (st.map .str)], .tuple [b, .list (ki.map .str)], .tuple [d, .list (st.map .str)]] [s0, .d (.list (st.map .str)), .d (.list (ki.map .str)), s3, s4, s5, s6, s7] [] = .rt (.d (.bool false)) []) := by
  have i1 := nin_names ha hst
  have i2 := nin_names hb hki
  have i3 := nin_names hd hst
  have n1 := law_name_ ha
  have n2 := law_name_ hb
  have n3 := law_name_ hd
  have g : ∀ x y (ρ : List S), gtT (gtsCons (gtN 4) (gtsCons (gtN 5) gtsNil)) (.tuple [x, y]) ρ = some ((ρ.set 4 (.d x)).set 5 (.d y)) := fun _ _ _ => rfl
  cases m1 : isName a with
  | false =>
    refine .inr ⟨by simp [inS_name nst m1], ?_⟩
    rw [gFor_cons, g]
    simp [n1, m1]
  | true =>
    cases e1 : inS a st with
    | false =>
      refine .inr ⟨rfl, ?_⟩
      rw [gFor_cons, g]
      simp [n1, m1, i1, e1]
    | true =>
      cases m2 : isName b with
      | false =>
        refine .inr ⟨by simp [inS_name nki m2], ?_⟩
        rw [gFor_cons, g]
        simp [n1, m1, i1, e1]
        rw [gFor_cons, g]
        simp [n2, m2]
      | true =>
        cases e2 : inS b ki with
        | false =>
          refine .inr ⟨rfl, ?_⟩
          rw [gFor_cons, g]
          simp [n1, m1, i1, e1]
          rw [gFor_cons, g]
          simp [n2, m2, i2, e2]
        | true =>
          cases m3 : isName d with
          | false =>
            refine .inr ⟨by simp [inS_name nst m3], ?_⟩
            rw [gFor_cons, g]
            simp [n1, m1, i1, e1]
            rw [gFor_cons, g]
            simp [n2, m2, i2, e2]
            rw [gFor_cons, g]
            simp [n3, m3]
          | true =>
            cases e3 : inS d st with
            | false =>
              refine .inr ⟨rfl, ?_⟩
              rw [gFor_cons, g]
              simp [n1, m1, i1, e1]
              rw [gFor_cons, g]
              simp [n2, m2, i2, e2]
              rw [gFor_cons, g]
              simp [n3, m3, i3, e3]
            | true =>
              refine .inl ⟨rfl, .d d, .d (.list (st.map .str)), ?_⟩
              rw [gFor_cons, g]
              simp [n1, m1, i1, e1]
              rw [gFor_cons, g]
              simp [n2, m2, i2, e2]
              rw [gFor_cons, g]
              simp [n3, m3, i3, e3]
end
section
variable {p : Str → Bool} {st ki ta : List Str} (hst : ∀ w ∈ st, PyData.strOk w = true) (hki : ∀ w ∈ ki, PyData.strOk w = true) (hta : ∀ w ∈ ta, PyData.strOk w = true)
  (nst : ∀ w ∈ st, isName (.str w) = true) (nki : ∀ w ∈ ki, isName (.str w) = true) (nta : ∀ w ∈ ta, isName (.str w) = true) (h3 : ta.length ≤ 3)
include hst hki hta nst nki nta h3
theorem law_step_ {s : D} (h : Sane p s) : F__law_is_step [.d s, .d (.list (st.map .str)), .d (.list (ki.map .str)), .d (.list (ta.map .str))] [] = .ok (.d (.bool (stepP st ki ta s))) [] := by
  by_cases h6 : isTup s 6 6 = true
  · obtain ⟨a, b, c, d, e, f, rfl⟩ := isTup6 h6
    by_cases tc : ∃ ts, c = .tuple ts
    · obtain ⟨ts, rfl⟩ := tc
      by_cases te : ∃ as, e = .tuple as
      · obtain ⟨as, rfl⟩ := te
        have hts : ∀ x ∈ ts, Sane p x := fun x hx => (h.mem (x := .tuple ts) (by simp)).mem hx
        have has : ∀ x ∈ as, Sane p x := fun x hx => (h.mem (x := .tuple as) (by simp)).mem hx
        have pr := law_pairs_ (h.mem (x := .tuple as) (by simp)) 0 3 (by omega)
        rcases lhead_loop hst hki hta nst nki nta (.d (.tuple [a, b, .tuple ts, d, .tuple as, f])) (.d (.list (ta.map .str))) .no .no .no .no (h.mem (x := a) (by simp)) (h.mem (x := b) (by simp)) (h.mem (x := d) (by simp)) with ⟨j1, s4, s5, j2⟩ | ⟨j1, j2⟩
        · simp only [Bool.and_eq_true] at j1
          rcases ltests_loop hta nta (.d (.tuple [a, b, .tuple ts, d, .tuple as, f])) (.d (.list (st.map .str))) (.d (.list (ki.map .str))) s4 s5 .no .no hts with ⟨k1, s6, k2⟩ | ⟨k1, k2⟩
          · have ad := arePairs_adds nta h3 as
            have sp : stepP st ki ta (.tuple [a, b, .tuple ts, d, .tuple as, f]) = ((arePairs (.tuple as) 0 3 && as.all (addP ta)) && isNum f (-1000000000) 1000000000) := by
              rw [ad]
              simp [stepP, j1, k1, Bool.and_assoc]
            rw [sp]
            cases ap : arePairs (.tuple as) 0 3 with
            | false =>
              rw [ap] at pr
              simp [F__law_is_step, B__law_is_step, j2, k2, pr]
            | true =>
              rw [ap] at pr
              have h2 : ∀ x ∈ as, isTup x 2 2 = true := fun x hx => by
                have q : as.all isPair = true := by
                  simp only [arePairs, Bool.and_eq_true] at ap
                  exact ap.2.2.1
                obtain ⟨w, b, rfl, _⟩ := isPair_of (List.all_eq_true.1 q x hx)
                rfl
              rcases ladds_loop hta nta (.d (.tuple [a, b, .tuple ts, d, .tuple as, f])) (.d (.list (st.map .str))) (.d (.list (ki.map .str))) s4 s5 s6 .no has h2 with ⟨m1, s4', s7, m2⟩ | ⟨m1, m2⟩
              · rw [m1]
                simp [F__law_is_step, B__law_is_step, j2, k2, pr, m2, law_number_]
              · rw [m1]
                simp [F__law_is_step, B__law_is_step, j2, k2, pr, m2]
          · have sp : stepP st ki ta (.tuple [a, b, .tuple ts, d, .tuple as, f]) = false := by simp [stepP, k1]
            rw [sp]
            simp [F__law_is_step, B__law_is_step, j2, k2]
        · have sp : stepP st ki ta (.tuple [a, b, .tuple ts, d, .tuple as, f]) = false := by
            show (inS a st && (inS b ki && (inS d st && _))) = false
            cases q1 : inS a st with
            | false => rfl
            | true =>
              cases q2 : inS b ki with
              | false => rfl
              | true =>
                cases q3 : inS d st with
                | false => rfl
                | true => rw [q1, q2, q3] at j1; cases j1
          rw [sp]
          simp [F__law_is_step, B__law_is_step, j2]
      · have sp : stepP st ki ta (.tuple [a, b, .tuple ts, d, e, f]) = false := by
          cases e with
          | tuple as => exact absurd ⟨as, rfl⟩ te
          | _ => rfl
        have ne := isa_tuple_ne (d := e) fun as z => te ⟨as, z⟩
        rw [sp]
        simp [F__law_is_step, B__law_is_step, ne]
    · have sp : stepP st ki ta (.tuple [a, b, c, d, e, f]) = false := by
        cases c with
        | tuple as => exact absurd ⟨as, rfl⟩ tc
        | _ => rfl
      have ne := isa_tuple_ne (d := c) fun as z => tc ⟨as, z⟩
      rw [sp]
      simp [F__law_is_step, B__law_is_step, ne]
  · have h6' : isTup s 6 6 = false := by simpa using h6
    rw [step_no h6']
    cases s with
    | tuple xs =>
      rw [tup_len] at h6'
      simp [F__law_is_step, B__law_is_step, h6']
    | _ => simp [F__law_is_step, B__law_is_step, isaD]
end
/-- the whole rule -/
def sndD (x : D) : D := match x with
  | .tuple (_ :: b :: _) => b
  | _ => .none
def ruleP (d : D) : Bool := match d with
  | .tuple [a, b, c, ks, ss, ts, .tuple steps] => match a, c with
    | .str w, .str v => decide (w = "rule") && (isName b && (decide (v = "told" ∨ v = "date") && (arePairs ks 1 12 && (arePairs ss 1 40 && (arePairs ts 0 3 && match ks, ss, ts with
      | .tuple kl, .tuple sl, .tuple tl => kl.all (fun x => condP (sndD x)) && (sl.all (fun x => isName (sndD x)) && (tl.all (fun x => isNum (sndD x) 1 40) && (decide (steps.length ≤ 200) && steps.all (stepP (sl.map fstS) (kl.map fstS) (tl.map fstS)))))
      | _, _, _ => false)))))
    | _, _ => false
  | _ => false
/-- the steps' own lists are short -/
def Short (d : D) : Prop := ∀ a b c ks ss ts steps, d = .tuple [a, b, c, ks, ss, ts, .tuple steps] → ∀ s ∈ steps, ∀ a b c d as e, s = .tuple [a, b, c, d, .tuple as, e] → as.length < 4000
theorem isTup7 {x : D} (h : isTup x 7 7 = true) : ∃ a b c d e f g, x = .tuple [a, b, c, d, e, f, g] := by
  cases x with
  | tuple xs =>
    simp [isTup] at h
    match xs, h with
    | [a, b, c, d, e, f, g], _ => exact ⟨a, b, c, d, e, f, g, rfl⟩
    | [], h => simp at h
    | [a], h => simp at h
    | [a, b], h => simp at h
    | [a, b, c], h => simp at h
    | [a, b, c, d], h => simp at h
    | [a, b, c, d, e], h => simp at h
    | [a, b, c, d, e, f], h => simp at h
    | a :: b :: c :: d :: e :: f :: g :: k :: r, h => simp at h; omega
  | _ => simp [isTup] at h
theorem pairs_tup {d : D} {a b : Int} (h : arePairs d a b = true) : ∃ xs, d = .tuple xs ∧ (∀ x ∈ xs, isPair x = true) ∧ a ≤ (xs.length : Int) ∧ (xs.length : Int) ≤ b := by
  cases d with
  | tuple xs =>
    simp only [arePairs, Bool.and_eq_true, decide_eq_true_eq] at h
    exact ⟨xs, rfl, List.all_eq_true.1 h.2.2.1, h.1, h.2.1⟩
  | _ => simp [arePairs] at h
theorem lc4 {d : D} {s1 s2 s3 : S} {xs : List D} (hl : xs.length ≤ 100000) {t : List S → M Bool} (q : D → Bool) (h : ∀ x ∈ xs, t [.d d, s1, s2, s3, .d x] [] = .ok (q x) []) : lcL (gtN 4) t (eV 4) [.d d, s1, s2, s3, .no] xs [] [] = .ok (.own (.lst (xs.filter q))) [] := by
  have z := lcL_pure (cs := []) (tg := gtN 4) (t := t) (f := eV 4) (ρ := [.d d, s1, s2, s3, .no]) (fun y => [.d d, s1, s2, s3, .d y]) q id xs [] (fun x hx => ⟨rfl, h x hx, fun _ => by simp⟩) (by simp; exact size_ok (by omega))
  rw [List.nil_append, List.map_id] at z
  exact z
theorem nm4 {d : D} {s1 s2 s3 : S} {xs : List D} (hl : xs.length ≤ 100000) (h : ∀ x ∈ xs, isPair x = true) : lcL (gtN 4) tYesM (eBin ixD (eV 4) (eC (.int (0)))) [.d d, s1, s2, s3, .no] xs [] [] = .ok (.own (.lst ((xs.map fstS).map .str))) [] := by
  have z := lcL_pure (cs := []) (tg := gtN 4) (t := tYesM) (f := eBin ixD (eV 4) (eC (.int (0)))) (ρ := [.d d, s1, s2, s3, .no]) (fun y => [.d d, s1, s2, s3, .d y]) (fun _ => true) (fun x => .str (fstS x)) xs [] (fun x hx => by
    obtain ⟨w, b, rfl, e⟩ := isPair_of (h x hx)
    exact ⟨rfl, rfl, fun _ => by simp [e]⟩) (by simp; exact size_ok (by omega))
  have ft : xs.filter (fun _ => true) = xs := List.filter_eq_self.2 fun _ _ => rfl
  rw [List.nil_append, ft] at z
  rw [z, List.map_map]; rfl
theorem pair_names {p : Str → Bool} {xs : List D} (h : ∀ x ∈ xs, isPair x = true) (hs : ∀ x ∈ xs, Sane p x) : ∀ w ∈ xs.map fstS, PyData.strOk w = true ∧ isName (.str w) = true := by
  intro w hw
  obtain ⟨x, hx, rfl⟩ := List.mem_map.1 hw
  have h1 := h x hx
  obtain ⟨w, b, rfl, e⟩ := isPair_of h1
  rw [e]
  exact ⟨((hs _ hx).mem (x := .str w) (by simp)).str.2.1, h1⟩
theorem snd_of {x : D} (h : isPair x = true) : ∃ w, x = .tuple [.str w, sndD x] := by
  obtain ⟨w, b, rfl, _⟩ := isPair_of h
  exact ⟨w, rfl⟩
theorem Sane.snd {p : Str → Bool} {x : D} (h : Sane p x) (hp : isPair x = true) : Sane p (sndD x) := by
  obtain ⟨w, b, rfl, _⟩ := isPair_of hp
  exact h.mem (x := b) (by simp)
theorem ix1 {x : D} (h : isPair x = true) : ixD x (.int 1) = some (sndD x) := by
  obtain ⟨w, b, rfl, _⟩ := isPair_of h
  simp [sndD]
theorem filt_all {xs : List D} (f : D → Bool) : (!(xs.filter fun x => !f x).isEmpty) = !(xs.all f) := by rw [filt_nil]
theorem ruleP_str {a b c ks ss ts : D} {steps : List D} {w v : Str} (ha : a = .str w) (hc : c = .str v) : ruleP (.tuple [a, b, c, ks, ss, ts, .tuple steps]) = (decide (w = "rule") && (isName b && (decide (v = "told" ∨ v = "date") && (arePairs ks 1 12 && (arePairs ss 1 40 && (arePairs ts 0 3 && match ks, ss, ts with
      | .tuple kl, .tuple sl, .tuple tl => kl.all (fun x => condP (sndD x)) && (sl.all (fun x => isName (sndD x)) && (tl.all (fun x => isNum (sndD x) 1 40) && (decide (steps.length ≤ 200) && steps.all (stepP (sl.map fstS) (kl.map fstS) (tl.map fstS)))))
      | _, _, _ => false)))))) := by
  subst ha hc
  rfl
theorem ruleP_no {x : D} (h : isTup x 7 7 = false) : ruleP x = false := by
  cases x with
  | tuple xs =>
    match xs, h with
    | [a, b, c, d, e, f, g], h => simp [isTup] at h
    | [], h => rfl
    | [a], h => rfl
    | [a, b], h => rfl
    | [a, b, c], h => rfl
    | [a, b, c, d], h => rfl
    | [a, b, c, d, e], h => rfl
    | [a, b, c, d, e, f], h => rfl
    | a :: b :: c :: d :: e :: f :: g :: k :: r, h => cases g <;> rfl
  | _ => rfl
theorem ruleP_g {a b c ks ss ts g : D} (h : ∀ xs, g ≠ .tuple xs) : ruleP (.tuple [a, b, c, ks, ss, ts, g]) = false := by
  cases g with
  | tuple xs => exact absurd rfl (h xs)
  | _ => rfl
theorem ruleP_a {a b c ks ss ts g : D} (h : ∀ w, a ≠ .str w) : ruleP (.tuple [a, b, c, ks, ss, ts, g]) = false := by
  cases g with
  | tuple xs =>
    cases a with
    | str w => exact absurd rfl (h w)
    | _ => rfl
  | _ => rfl
theorem ruleP_c {a b c ks ss ts g : D} (h : ∀ w, c ≠ .str w) : ruleP (.tuple [a, b, c, ks, ss, ts, g]) = false := by
  cases g with
  | tuple xs =>
    cases c with
    | str w => exact absurd rfl (h w)
    | _ => cases a <;> rfl
  | _ => rfl
theorem is_rule_ (K : PySem.W.Frag) {d : D} (h : Sane isPN d) (hz : Short d) : F_is_rule K [.d d] [] = .ok (.d (.bool (ruleP d))) [] := by
  by_cases h7 : isTup d 7 7 = true
  · obtain ⟨a, b, c, ks, ss, ts, g, rfl⟩ := isTup7 h7
    by_cases ha : ∃ w, a = .str w
    · obtain ⟨w, rfl⟩ := ha
      have nb := is_name_ (h.mem (x := b) (by simp))
      by_cases hw : w = "rule"
      · subst hw
        cases eb : isName b with
        | false =>
          have rp : ruleP (.tuple [.str "rule", b, c, ks, ss, ts, g]) = false := by
            cases g with
            | tuple xs => cases c <;> first | rfl | (rw [ruleP_str rfl rfl]; simp [eb])
            | _ => rfl
          rw [rp]
          simp [F_is_rule, B_is_rule, is_tuple_, h7, nb, eb]
        | true =>
          by_cases hc : ∃ v, c = .str v
          · obtain ⟨v, rfl⟩ := hc
            by_cases hv : v = "told" ∨ v = "date"
            · have pk := are_pairs_ (h.mem (x := ks) (by simp)) 1 12 (by omega)
              have ps := are_pairs_ (h.mem (x := ss) (by simp)) 1 40 (by omega)
              have pt := are_pairs_ (h.mem (x := ts) (by simp)) 0 3 (by omega)
              cases pk1 : arePairs ks 1 12 with
              | false =>
                have rp : ruleP (.tuple [.str "rule", b, .str v, ks, ss, ts, g]) = false := by
                  cases g with
                  | tuple xs => rw [ruleP_str rfl rfl]; simp [pk1]
                  | _ => rfl
                rw [pk1] at pk
                rw [rp]
                rcases hv with rfl | rfl <;> simp [F_is_rule, B_is_rule, is_tuple_, h7, nb, eb, ninD_eq, pk]
              | true =>
                rw [pk1] at pk
                obtain ⟨kl, rfl, kp, k1, k2⟩ := pairs_tup pk1
                have ksn : ∀ x ∈ kl, Sane isPN x := fun x hx => (h.mem (x := .tuple kl) (by simp)).mem hx
                have hss := h.mem (x := ss) (by simp)
                have htt := h.mem (x := ts) (by simp)
                have hgg := h.mem (x := g) (by simp)
                generalize hd : PyData.tuple [.str "rule", b, .str v, .tuple kl, ss, ts, g] = dd at *
                have i3 : ixD dd (.int 3) = some (.tuple kl) := by rw [← hd]; simp
                have i4 : ixD dd (.int 4) = some ss := by rw [← hd]; simp
                have i5 : ixD dd (.int 5) = some ts := by rw [← hd]; simp
                have i6 : ixD dd (.int 6) = some g := by rw [← hd]; simp
                have i0 : ixD dd (.int 0) = some (.str "rule") := by rw [← hd]; simp
                have i1 : ixD dd (.int 1) = some b := by rw [← hd]; simp
                have i2 : ixD dd (.int 2) = some (.str v) := by rw [← hd]; simp
                have ninv : ¬ (¬ ("told" : Str) = v ∧ ¬ ("date" : Str) = v) := by rcases hv with rfl | rfl <;> simp
                have c1 := lc4 (d := dd) (s1 := .no) (s2 := .no) (s3 := .no) (xs := kl) (by omega) (t := tOrM (tNotM (tT (eFrz (eCall (F_is_condition K) (aCons (eBin ixD (eV 4) (eC (.int (1)))) aNil))))) (tNotM (tT (eFrz (eCall (F_is_timeless 12) (aCons (eBin ixD (eV 4) (eC (.int (1)))) aNil)))))) (fun x => !condP (sndD x)) (fun x hx => by
                  have xi := ix1 (kp x hx)
                  have sx := (ksn x hx).snd (kp x hx)
                  have ic := is_condition_ K sx
                  cases e : (condP (sndD x) || notP (sndD x)) with
                  | false =>
                    rw [e] at ic
                    have e2 : condP (sndD x) = false := (Bool.or_eq_false_iff.1 e).1
                    simp [xi, ic, e2]
                  | true =>
                    rw [e] at ic
                    have it := is_timeless_ (n := 11) sx e
                    simp [xi, ic, it])
                have f1 := filt_nil (xs := kl) (fun x => condP (sndD x))
                generalize (kl.filter fun x => !condP (sndD x)) = fl1 at *
                cases a1 : kl.all (fun x => condP (sndD x)) with
                | false =>
                  rw [a1] at f1
                  have rp : ruleP dd = false := by
                    rw [← hd]
                    cases g with
                    | tuple xs => rw [ruleP_str rfl rfl]; cases ss <;> cases ts <;> simp [a1]
                    | _ => rfl
                  rw [rp]
                  simp [F_is_rule, B_is_rule, is_tuple_, h7, nb, eb, ninv, pk, i0, i1, i2, i3, c1, f1]
                | true =>
                  rw [a1] at f1
                  cases ps1 : arePairs ss 1 40 with
                  | false =>
                    rw [ps1] at ps
                    have rp : ruleP dd = false := by
                      rw [← hd]
                      cases g with
                      | tuple xs => rw [ruleP_str rfl rfl]; simp [ps1]
                      | _ => rfl
                    rw [rp]
                    simp [F_is_rule, B_is_rule, is_tuple_, h7, nb, eb, ninv, pk, i0, i1, i2, i3, i4, c1, f1, ps]
                  | true =>
                    rw [ps1] at ps
                    obtain ⟨sl, rfl, sp, s1, s2⟩ := pairs_tup ps1
                    have ssn : ∀ x ∈ sl, Sane isPN x := fun x hx => hss.mem hx
                    have c2 := lc4 (d := dd) (s1 := .no) (s2 := .no) (s3 := .no) (xs := sl) (by omega) (t := tNotM (tT (eFrz (eCall F_is_name (aCons (eBin ixD (eV 4) (eC (.int (1)))) aNil))))) (fun x => !isName (sndD x)) (fun x hx => by
                      have xi := ix1 (sp x hx)
                      have ic := is_name_ ((ssn x hx).snd (sp x hx))
                      simp [xi, ic])
                    have f2 := filt_nil (xs := sl) (fun x => isName (sndD x))
                    generalize (sl.filter fun x => !isName (sndD x)) = fl2 at *
                    cases a2 : sl.all (fun x => isName (sndD x)) with
                    | false =>
                      rw [a2] at f2
                      have rp : ruleP dd = false := by
                        rw [← hd]
                        cases g with
                        | tuple xs => rw [ruleP_str rfl rfl]; cases ts <;> simp [a2]
                        | _ => rfl
                      rw [rp]
                      simp [F_is_rule, B_is_rule, is_tuple_, h7, nb, eb, ninv, pk, i0, i1, i2, i3, i4, c1, f1, ps, c2, f2]
                    | true =>
                      rw [a2] at f2
                      cases pt1 : arePairs ts 0 3 with
                      | false =>
                        rw [pt1] at pt
                        have rp : ruleP dd = false := by
                          rw [← hd]
                          cases g with
                          | tuple xs => rw [ruleP_str rfl rfl]; simp [pt1]
                          | _ => rfl
                        rw [rp]
                        simp [F_is_rule, B_is_rule, is_tuple_, h7, nb, eb, ninv, pk, i0, i1, i2, i3, i4, i5, c1, f1, ps, c2, f2, pt]
                      | true =>
                        rw [pt1] at pt
                        obtain ⟨tl, rfl, tp, t1, t2⟩ := pairs_tup pt1
                        have tsn : ∀ x ∈ tl, Sane isPN x := fun x hx => htt.mem hx
                        have c3 := lc4 (d := dd) (s1 := .no) (s2 := .no) (s3 := .no) (xs := tl) (by omega) (t := tNotM (tT (eFrz (eCall F_is_number (aCons (eBin ixD (eV 4) (eC (.int (1)))) (aCons (eC (.int (1))) (aCons (eC (.int (40))) aNil))))))) (fun x => !isNum (sndD x) 1 40) (fun x hx => by
                          have xi := ix1 (tp x hx)
                          simp [xi, is_number_])
                        have f3 := filt_nil (xs := tl) (fun x => isNum (sndD x) 1 40)
                        generalize (tl.filter fun x => !isNum (sndD x) 1 40) = fl3 at *
                        cases a3 : tl.all (fun x => isNum (sndD x) 1 40) with
                        | false =>
                          rw [a3] at f3
                          have rp : ruleP dd = false := by
                            rw [← hd]
                            cases g with
                            | tuple xs => rw [ruleP_str rfl rfl]; simp [a3]
                            | _ => rfl
                          rw [rp]
                          simp [F_is_rule, B_is_rule, is_tuple_, h7, nb, eb, ninv, pk, i0, i1, i2, i3, i4, i5, c1, f1, ps, c2, f2, pt, c3, f3]
                        | true =>
                          rw [a3] at f3
                          have m1 := nm4 (d := dd) (s1 := .no) (s2 := .no) (s3 := .no) (xs := kl) (by omega) kp
                          have m2 := nm4 (d := dd) (s1 := .d (.list ((kl.map fstS).map .str))) (s2 := .no) (s3 := .no) (xs := sl) (by omega) sp
                          have m3 := nm4 (d := dd) (s1 := .d (.list ((kl.map fstS).map .str))) (s2 := .d (.list ((sl.map fstS).map .str))) (s3 := .no) (xs := tl) (by omega) tp
                          have nk := pair_names kp ksn
                          have ns := pair_names sp ssn
                          have nt := pair_names tp tsn
                          by_cases hg : isTup g 0 200 = true
                          · cases g with
                            | tuple gl =>
                              have gl2 : gl.length ≤ 200 := by simp [isTup] at hg; omega
                              have rp : ruleP dd = gl.all (stepP (sl.map fstS) (kl.map fstS) (tl.map fstS)) := by
                                rw [← hd, ruleP_str rfl rfl]
                                simp only [eb, hv, pk1, ps1, pt1, a1, a2, a3, decide_true, Bool.true_and, decide_eq_true gl2]
                              have c4 := lc4 (d := dd) (s1 := .d (.list ((kl.map fstS).map .str))) (s2 := .d (.list ((sl.map fstS).map .str))) (s3 := .d (.list ((tl.map fstS).map .str))) (xs := gl) (by omega) (t := tNotM (tT (eFrz (eCall F_is_step (aCons (eV 4) (aCons (eV 2) (aCons (eV 1) (aCons (eV 3) aNil)))))))) (fun x => !stepP (sl.map fstS) (kl.map fstS) (tl.map fstS) x) (fun x hx => by
                                have is := is_step_ (p := isPN) (st := sl.map fstS) (ki := kl.map fstS) (ta := tl.map fstS) (fun w hw => (ns w hw).1) (fun w hw => (nk w hw).1) (fun w hw => (nt w hw).1) (s := x) (hgg.mem hx) (fun a' b' c' d' as e' ex => hz _ _ _ _ _ _ gl hd.symm x hx a' b' c' d' as e' ex)
                                generalize (sl.map fstS).map PyData.str = l1 at *
                                generalize (kl.map fstS).map PyData.str = l2 at *
                                generalize (tl.map fstS).map PyData.str = l3 at *
                                simp [is])
                              have sh := (hgg.sub (ys := gl.filter fun x => !stepP (sl.map fstS) (kl.map fstS) (tl.map fstS) x) (fun x hx => (List.mem_filter.1 hx).1)).2.sh
                              have en := eq_nil sh
                              rw [filt_nil, ← rp] at en
                              rw [show (Rv.d (PyData.bool (ruleP dd))) = Rv.d (PyData.bool (ruleP dd)) from rfl]
                              generalize (gl.filter fun x => !stepP (sl.map fstS) (kl.map fstS) (tl.map fstS) x) = fl4 at *
                              generalize (sl.map fstS).map PyData.str = l1 at *
                              generalize (kl.map fstS).map PyData.str = l2 at *
                              generalize (tl.map fstS).map PyData.str = l3 at *
                              simp [F_is_rule, B_is_rule, is_tuple_, h7, nb, eb, ninv, pk, i0, i1, i2, i3, i4, i5, i6, c1, f1, ps, c2, f2, pt, c3, f3, m1, m2, m3, hg, c4, en]
                            | _ => simp [isTup] at hg
                          · have hg' : isTup g 0 200 = false := by simpa using hg
                            have rp : ruleP dd = false := by
                              rw [← hd]
                              cases g with
                              | tuple xs =>
                                have : ¬ xs.length ≤ 200 := by
                                  intro z
                                  have : isTup (.tuple xs) 0 200 = true := by simp [isTup]; omega
                                  rw [this] at hg'; cases hg'
                                rw [ruleP_str rfl rfl]; simp [this]
                              | _ => rfl
                            rw [rp]
                            generalize (sl.map fstS).map PyData.str = l1 at *
                            generalize (kl.map fstS).map PyData.str = l2 at *
                            generalize (tl.map fstS).map PyData.str = l3 at *
                            simp [F_is_rule, B_is_rule, is_tuple_, h7, nb, eb, ninv, pk, i0, i1, i2, i3, i4, i5, i6, c1, f1, ps, c2, f2, pt, c3, f3, m1, m2, m3, hg']
            · have rp : ruleP (.tuple [.str "rule", b, .str v, ks, ss, ts, g]) = false := by
                cases g with
                | tuple xs => rw [ruleP_str rfl rfl]; simp [hv]
                | _ => rfl
              simp only [not_or] at hv
              have b1 := beq_ne hv.1
              have b2 := beq_ne hv.2
              rw [rp]
              simp [F_is_rule, B_is_rule, is_tuple_, h7, nb, eb, ninD_eq, b1, b2]
          · have nc := isa_str_ne (d := c) fun v z => hc ⟨v, z⟩
            rw [ruleP_c fun v z => hc ⟨v, z⟩]
            simp [F_is_rule, B_is_rule, is_tuple_, h7, nb, eb, nc]
      · have rp : ruleP (.tuple [.str w, b, c, ks, ss, ts, g]) = false := by
          cases g with
          | tuple xs => cases c <;> first | rfl | (rw [ruleP_str rfl rfl]; simp [hw])
          | _ => rfl
        have b1 := beq_ne hw
        rw [rp]
        simp [F_is_rule, B_is_rule, is_tuple_, h7, b1]
    · have na := isa_str_ne (d := a) fun v z => ha ⟨v, z⟩
      rw [ruleP_a fun v z => ha ⟨v, z⟩]
      simp [F_is_rule, B_is_rule, is_tuple_, h7, na]
  · have h7' : isTup d 7 7 = false := by simpa using h7
    rw [ruleP_no h7']
    simp [F_is_rule, B_is_rule, is_tuple_, h7']
theorem lw2 {d : D} {s1 s3 s4 : S} {xs : List D} (hl : xs.length ≤ 100000) {t : List S → M Bool} (q : D → Bool) (h : ∀ x ∈ xs, t [.d d, s1, .d x, s3, s4] [] = .ok (q x) []) : lcL (gtN 2) t (eC (.int 1)) [.d d, s1, .no, s3, s4] xs [] [] = .ok (.own (.lst ((xs.filter q).map fun _ => .int 1))) [] := by
  have z := lcL_pure (cs := []) (tg := gtN 2) (t := t) (f := eC (.int 1)) (ρ := [.d d, s1, .no, s3, s4]) (fun y => [.d d, s1, .d y, s3, s4]) q (fun _ => .int 1) xs [] (fun x hx => ⟨rfl, h x hx, fun _ => rfl⟩) (by simp; exact size_ok (by omega))
  rw [List.nil_append] at z
  exact z
theorem lw4 {d : D} {s1 s2 s3 : S} {xs : List D} (hl : xs.length ≤ 100000) {t : List S → M Bool} (q : D → Bool) (h : ∀ x ∈ xs, t [.d d, s1, s2, s3, .d x] [] = .ok (q x) []) : lcL (gtN 4) t (eC (.int 1)) [.d d, s1, s2, s3, .no] xs [] [] = .ok (.own (.lst ((xs.filter q).map fun _ => .int 1))) [] := by
  have z := lcL_pure (cs := []) (tg := gtN 4) (t := t) (f := eC (.int 1)) (ρ := [.d d, s1, s2, s3, .no]) (fun y => [.d d, s1, s2, s3, .d y]) q (fun _ => .int 1) xs [] (fun x hx => ⟨rfl, h x hx, fun _ => rfl⟩) (by simp; exact size_ok (by omega))
  rw [List.nil_append] at z
  exact z
theorem nw2 {d : D} {s1 s3 s4 : S} {xs : List D} (hl : xs.length ≤ 100000) (h : ∀ x ∈ xs, isPair x = true) : lcL (gtN 2) tYesM (eBin ixD (eV 2) (eC (.int (0)))) [.d d, s1, .no, s3, s4] xs [] [] = .ok (.own (.lst ((xs.map fstS).map .str))) [] := by
  have z := lcL_pure (cs := []) (tg := gtN 2) (t := tYesM) (f := eBin ixD (eV 2) (eC (.int (0)))) (ρ := [.d d, s1, .no, s3, s4]) (fun y => [.d d, s1, .d y, s3, s4]) (fun _ => true) (fun x => .str (fstS x)) xs [] (fun x hx => by
    obtain ⟨w, b, rfl, e⟩ := isPair_of (h x hx)
    exact ⟨rfl, rfl, fun _ => by simp [e]⟩) (by simp; exact size_ok (by omega))
  have ft : xs.filter (fun _ => true) = xs := List.filter_eq_self.2 fun _ _ => rfl
  rw [List.nil_append, ft] at z
  rw [z, List.map_map]; rfl
theorem ones {xs : List D} (f : D → Bool) : decide ((0 : Int) < (((xs.filter fun x => !f x).map fun _ => PyData.int 1).length : Nat)) = !(xs.all f) := by
  rw [← filt_nil, List.length_map]
  cases (xs.filter fun x => !f x) with
  | nil => rfl
  | cons a l => first | (simp; done) | (simp; omega)
theorem ones0 {xs : List D} (f : D → Bool) : (((((xs.filter fun x => !f x).map fun _ => PyData.int 1).length : Nat) : Int) == 0) = xs.all f := by
  rw [← filt_nil, List.length_map]
  cases (xs.filter fun x => !f x) with
  | nil => rfl
  | cons a l => first | (simp; done) | (simp; omega)
theorem law_rule_ {d : D} (h : Sane isPN d) : F__law_is_rule [.d d] [] = .ok (.d (.bool (ruleP d))) [] := by
  by_cases h7 : isTup d 7 7 = true
  · obtain ⟨a, b, c, ks, ss, ts, g, rfl⟩ := isTup7 h7
    by_cases ha : ∃ w, a = .str w
    · obtain ⟨w, rfl⟩ := ha
      have nb := law_name_ (h.mem (x := b) (by simp))
      by_cases hw : w = "rule"
      · subst hw
        cases eb : isName b with
        | false =>
          have rp : ruleP (.tuple [.str "rule", b, c, ks, ss, ts, g]) = false := by
            cases g with
            | tuple xs => cases c <;> first | rfl | (rw [ruleP_str rfl rfl]; simp [eb])
            | _ => rfl
          rw [rp]
          simp [F__law_is_rule, B__law_is_rule, nb, eb]
        | true =>
          by_cases hc : ∃ v, c = .str v
          · obtain ⟨v, rfl⟩ := hc
            by_cases hv : v = "told" ∨ v = "date"
            · have pk := law_pairs_ (h.mem (x := ks) (by simp)) 1 12 (by omega)
              have ps := law_pairs_ (h.mem (x := ss) (by simp)) 1 40 (by omega)
              have pt := law_pairs_ (h.mem (x := ts) (by simp)) 0 3 (by omega)
              have hkk := h.mem (x := ks) (by simp)
              have hss := h.mem (x := ss) (by simp)
              have htt := h.mem (x := ts) (by simp)
              have hgg := h.mem (x := g) (by simp)
              have ninv : ¬ (¬ ("told" : Str) = v ∧ ¬ ("date" : Str) = v) := by rcases hv with rfl | rfl <;> simp
              generalize hd : PyData.tuple [.str "rule", b, .str v, ks, ss, ts, g] = dd at *
              have i3 : ixD dd (.int 3) = some ks := by rw [← hd]; simp
              have i4 : ixD dd (.int 4) = some ss := by rw [← hd]; simp
              have i5 : ixD dd (.int 5) = some ts := by rw [← hd]; simp
              have i6 : ixD dd (.int 6) = some g := by rw [← hd]; simp
              have i0 : ixD dd (.int 0) = some (.str "rule") := by rw [← hd]; simp
              have i1 : ixD dd (.int 1) = some b := by rw [← hd]; simp
              have i2 : ixD dd (.int 2) = some (.str v) := by rw [← hd]; simp
              have it : isaD "tuple" dd = true := by rw [← hd]; rfl
              have il : lenG [dd] = some (.int 7) := by rw [← hd]; rfl
              by_cases h3 : (arePairs ks 1 12 && (arePairs ss 1 40 && arePairs ts 0 3)) = true
              · simp only [Bool.and_eq_true] at h3
                obtain ⟨pk1, ps1, pt1⟩ := h3
                rw [pk1] at pk
                rw [ps1] at ps
                rw [pt1] at pt
                obtain ⟨kl, rfl, kp, k1, k2⟩ := pairs_tup pk1
                obtain ⟨sl, rfl, sp, s1, s2⟩ := pairs_tup ps1
                obtain ⟨tl, rfl, tp, t1, t2⟩ := pairs_tup pt1
                have c1 := lw2 (d := dd) (s1 := .no) (s3 := .no) (s4 := .no) (xs := kl) (by omega) (t := tNotM (tT (eFrz (eCall F__law_is_condition (aCons (eBin ixD (eV 2) (eC (.int (1)))) aNil))))) (fun x => !condP (sndD x)) (fun x hx => by
                  have xi := ix1 (kp x hx)
                  have ic := law_condition_ ((hkk.mem hx).snd (kp x hx))
                  simp [xi, ic])
                have f1 := ones (xs := kl) (fun x => condP (sndD x))
                generalize ((kl.filter fun x => !condP (sndD x)).map fun _ => PyData.int 1) = fl1 at *
                have c2 := lw2 (d := dd) (s1 := .no) (s3 := .no) (s4 := .no) (xs := sl) (by omega) (t := tNotM (tT (eFrz (eCall F__law_is_name (aCons (eBin ixD (eV 2) (eC (.int (1)))) aNil))))) (fun x => !isName (sndD x)) (fun x hx => by
                  have xi := ix1 (sp x hx)
                  have ic := law_name_ ((hss.mem hx).snd (sp x hx))
                  simp [xi, ic])
                have f2 := ones (xs := sl) (fun x => isName (sndD x))
                generalize ((sl.filter fun x => !isName (sndD x)).map fun _ => PyData.int 1) = fl2 at *
                have c3 := lw2 (d := dd) (s1 := .no) (s3 := .no) (s4 := .no) (xs := tl) (by omega) (t := tNotM (tT (eFrz (eCall F__law_is_number (aCons (eBin ixD (eV 2) (eC (.int (1)))) (aCons (eC (.int (1))) (aCons (eC (.int (40))) aNil))))))) (fun x => !isNum (sndD x) 1 40) (fun x hx => by
                  have xi := ix1 (tp x hx)
                  simp [xi, law_number_])
                have f3 := ones (xs := tl) (fun x => isNum (sndD x) 1 40)
                generalize ((tl.filter fun x => !isNum (sndD x) 1 40).map fun _ => PyData.int 1) = fl3 at *
                cases a1 : kl.all (fun x => condP (sndD x)) with
                | false =>
                  rw [a1] at f1
                  have rp : ruleP dd = false := by
                    rw [← hd]
                    cases g with
                    | tuple xs => rw [ruleP_str rfl rfl]; simp [a1]
                    | _ => rfl
                  rw [rp]
                  simp at f1
                  simp [F__law_is_rule, B__law_is_rule, it, il, nb, eb, ninv, pk, ps, pt, i0, i1, i2, i3, i4, i5, i6, c1, f1]
                | true =>
                  rw [a1] at f1
                  cases a2 : sl.all (fun x => isName (sndD x)) with
                  | false =>
                    rw [a2] at f2
                    have rp : ruleP dd = false := by
                      rw [← hd]
                      cases g with
                      | tuple xs => rw [ruleP_str rfl rfl]; simp [a2]
                      | _ => rfl
                    rw [rp]
                    simp at f1 f2
                    simp [F__law_is_rule, B__law_is_rule, it, il, nb, eb, ninv, pk, ps, pt, i0, i1, i2, i3, i4, i5, i6, c1, f1, c2, f2]
                  | true =>
                    rw [a2] at f2
                    cases a3 : tl.all (fun x => isNum (sndD x) 1 40) with
                    | false =>
                      rw [a3] at f3
                      have rp : ruleP dd = false := by
                        rw [← hd]
                        cases g with
                        | tuple xs => rw [ruleP_str rfl rfl]; simp [a3]
                        | _ => rfl
                      rw [rp]
                      simp at f1 f2 f3
                      simp [F__law_is_rule, B__law_is_rule, it, il, nb, eb, ninv, pk, ps, pt, i0, i1, i2, i3, i4, i5, i6, c1, f1, c2, f2, c3, f3]
                    | true =>
                      rw [a3] at f3
                      simp at f1 f2 f3
                      by_cases hg : ∃ gl, g = .tuple gl
                      · obtain ⟨gl, rfl⟩ := hg
                        by_cases gl2 : gl.length ≤ 200
                        · have gl3 : ¬ (200 : Int) < gl.length := by omega
                          have rp : ruleP dd = gl.all (stepP (sl.map fstS) (kl.map fstS) (tl.map fstS)) := by
                            rw [← hd, ruleP_str rfl rfl]
                            simp only [eb, hv, pk1, ps1, pt1, a1, a2, a3, decide_true, Bool.true_and, decide_eq_true gl2]
                          have m1 := nw2 (d := dd) (s1 := .no) (s3 := .d (.int 4)) (s4 := .no) (xs := sl) (by omega) sp
                          have m2 := nw2 (d := dd) (s1 := .no) (s3 := .d (.int 3)) (s4 := .no) (xs := kl) (by omega) kp
                          have m3 := nw2 (d := dd) (s1 := .no) (s3 := .d (.int 5)) (s4 := .no) (xs := tl) (by omega) tp
                          have nk := pair_names kp (fun x hx => hkk.mem hx)
                          have ns := pair_names sp (fun x hx => hss.mem hx)
                          have nt := pair_names tp (fun x hx => htt.mem hx)
                          have c4 := lw4 (d := dd) (s1 := .d (.list [.list ((sl.map fstS).map .str), .list ((kl.map fstS).map .str), .list ((tl.map fstS).map .str)])) (s2 := .no) (s3 := .no) (xs := gl) (by omega) (t := tNotM (tT (eFrz (eCall F__law_is_step (aCons (eV 4) (aCons (eBin ixD (eV 1) (eC (.int (0)))) (aCons (eBin ixD (eV 1) (eC (.int (1)))) (aCons (eBin ixD (eV 1) (eC (.int (2)))) aNil)))))))) (fun x => !stepP (sl.map fstS) (kl.map fstS) (tl.map fstS) x) (fun x hx => by
                            have is := law_step_ (p := isPN) (st := sl.map fstS) (ki := kl.map fstS) (ta := tl.map fstS) (fun w hw => (ns w hw).1) (fun w hw => (nk w hw).1) (fun w hw => (nt w hw).1) (fun w hw => (ns w hw).2) (fun w hw => (nk w hw).2) (fun w hw => (nt w hw).2) (by rw [List.length_map]; omega) (s := x) (hgg.mem hx)
                            generalize (sl.map fstS).map PyData.str = l1 at *
                            generalize (kl.map fstS).map PyData.str = l2 at *
                            generalize (tl.map fstS).map PyData.str = l3 at *
                            simp [is])
                          have en := ones0 (xs := gl) (stepP (sl.map fstS) (kl.map fstS) (tl.map fstS))
                          rw [← rp] at en
                          generalize ((gl.filter fun x => !stepP (sl.map fstS) (kl.map fstS) (tl.map fstS) x).map fun _ => PyData.int 1) = fl4 at *
                          generalize (sl.map fstS).map PyData.str = l1 at *
                          generalize (kl.map fstS).map PyData.str = l2 at *
                          generalize (tl.map fstS).map PyData.str = l3 at *
                          simp [F__law_is_rule, B__law_is_rule, it, il, nb, eb, ninv, pk, ps, pt, i0, i1, i2, i3, i4, i5, i6, c1, f1, c2, f2, c3, f3, gl3, lcL_cons, m1, m2, m3, c4, en, (size_lt (by omega) : 1 < sizeLine), (size_lt (by omega) : 2 < sizeLine)]
                        · have gl3 : (200 : Int) < gl.length := by omega
                          have rp : ruleP dd = false := by
                            rw [← hd, ruleP_str rfl rfl]; simp [gl2]
                          rw [rp]
                          simp [F__law_is_rule, B__law_is_rule, it, il, nb, eb, ninv, pk, ps, pt, i0, i1, i2, i3, i4, i5, i6, c1, f1, c2, f2, c3, f3, gl3]
                      · have ng := isa_tuple_ne (d := g) fun gl z => hg ⟨gl, z⟩
                        have rp : ruleP dd = false := by rw [← hd]; exact ruleP_g fun gl z => hg ⟨gl, z⟩
                        rw [rp]
                        simp [F__law_is_rule, B__law_is_rule, it, il, nb, eb, ninv, pk, ps, pt, i0, i1, i2, i3, i4, i5, i6, c1, f1, c2, f2, c3, f3, ng]
              · have rp : ruleP dd = false := by
                  rw [← hd]
                  cases g with
                  | tuple xs =>
                    rw [ruleP_str rfl rfl]
                    cases q1 : arePairs ks 1 12 <;> cases q2 : arePairs ss 1 40 <;> cases q3 : arePairs ts 0 3 <;> simp_all
                  | _ => rfl
                rw [rp]
                cases q1 : arePairs ks 1 12 with
                | false =>
                  rw [q1] at pk
                  simp [F__law_is_rule, B__law_is_rule, it, il, nb, eb, ninv, pk, i0, i1, i2, i3]
                | true =>
                  rw [q1] at pk
                  cases q2 : arePairs ss 1 40 with
                  | false =>
                    rw [q2] at ps
                    simp [F__law_is_rule, B__law_is_rule, it, il, nb, eb, ninv, pk, ps, i0, i1, i2, i3, i4]
                  | true =>
                    rw [q2] at ps
                    cases q3 : arePairs ts 0 3 with
                    | false =>
                      rw [q3] at pt
                      simp [F__law_is_rule, B__law_is_rule, it, il, nb, eb, ninv, pk, ps, pt, i0, i1, i2, i3, i4, i5]
                    | true => rw [q1, q2, q3] at h3; simp at h3
            · have rp : ruleP (.tuple [.str "rule", b, .str v, ks, ss, ts, g]) = false := by
                cases g with
                | tuple xs => rw [ruleP_str rfl rfl]; simp [hv]
                | _ => rfl
              simp only [not_or] at hv
              have b1 := beq_ne hv.1
              have b2 := beq_ne hv.2
              rw [rp]
              simp [F__law_is_rule, B__law_is_rule, nb, eb, ninD_eq, b1, b2]
          · have nc := isa_str_ne (d := c) fun v z => hc ⟨v, z⟩
            rw [ruleP_c fun v z => hc ⟨v, z⟩]
            simp [F__law_is_rule, B__law_is_rule, nb, eb, nc]
      · have rp : ruleP (.tuple [.str w, b, c, ks, ss, ts, g]) = false := by
          cases g with
          | tuple xs => cases c <;> first | rfl | (rw [ruleP_str rfl rfl]; simp [hw])
          | _ => rfl
        have b1 := beq_ne hw
        rw [rp]
        simp [F__law_is_rule, B__law_is_rule, b1]
    · have na := isa_str_ne (d := a) fun v z => ha ⟨v, z⟩
      rw [ruleP_a fun v z => ha ⟨v, z⟩]
      simp [F__law_is_rule, B__law_is_rule, na]
  · have h7' : isTup d 7 7 = false := by simpa using h7
    rw [ruleP_no h7']
    cases d with
    | tuple xs =>
      rw [tup_len] at h7'
      simp [F__law_is_rule, B__law_is_rule, h7']
    | _ => simp [F__law_is_rule, B__law_is_rule, isaD]
theorem sTry_ {i : Nat} {known sub : Str → Bool} {h : Str → Addr → G} {g : G} {ρ : List S} {cs : Store} : sTry i known sub h g ρ cs = match g ρ cs with
  | .er c ρ' cs' => if known c = true then (if sub c = true then hAs i h c ρ' cs' else .er c ρ' cs') else .no
  | o => o := rfl
theorem check_rule_ (K : PySem.W.Frag) {d : D} (h : Sane isPN d) (hz : Short d) : F_check_rule K [.d d] [] = if ruleP d = true then .ok (.d .none) [] else .er "BadRule" [] := by
  have r := is_rule_ K h hz
  cases e : ruleP d with
  | true => rw [e] at r; simp [F_check_rule, B_check_rule, r]
  | false => rw [e] at r; simp [F_check_rule, B_check_rule, r]
def toldD (b : Bool) : D := .list [.str (if b = true then "taken" else "refused")]
theorem told_ (K : PySem.W.Frag) {d : D} (h : Sane isPN d) (hz : Short d) : F__law_told K [.d d] [] = .ok (if ruleP d = true then .own (.lst [.str "taken"]) else .d (.list [.str "refused"])) [] := by
  have r := check_rule_ K h hz
  cases e : ruleP d with
  | true =>
    rw [e] at r
    simp at r
    simp [F__law_told, B__law_told, sTry_, r]
  | false =>
    rw [e] at r
    simp at r
    have k1 : exKnown "BadRule" = true := rfl
    have k2 : exSub_BadRule "BadRule" = true := rfl
    have k3 : exSub_BadArgument "BadRule" = false := rfl
    have k4 : exSub_BadWords "BadRule" = false := rfl
    have k5 : exSub_BadTreaty "BadRule" = false := rfl
    have k6 : exSub_BadForm "BadRule" = false := rfl
    have k7 : exSub_TooLarge "BadRule" = false := rfl
    have k8 : exSub_WhatbefellError "BadRule" = true := rfl
    have hh := hAs_of (i := 1) (h := fun c a => (gSeq (sSet 2 (eFrz (eLst (aCons (eIsE 1 a (exSub_BadArgument c)) (aCons (eIsE 1 a (exSub_BadWords c)) (aCons (eIsE 1 a (exSub_BadTreaty c)) (aCons (eIsE 1 a (exSub_BadForm c)) (aCons (eIsE 1 a (exSub_TooLarge c)) aNil))))))))
      (sRet (eRv (eIf (tAndM (tT (eIsE 1 a (exSub_WhatbefellError c))) (op2 ninD (eC (.bool true)) (eV 2))) (eFrz (eLst (aCons (eC (.str "refused")) aNil))) (eFrz (eLst (aCons (eC (.str "")) aNil)))))))) (c := "BadRule") (ρ := [.d d, .no, .no]) (cs := []) (o := .rt (.d (.list [.str "refused"])) []) (fun a => by
      simp [eIsE, k3, k4, k5, k6, k7, k8, inD_lst, ninD_eq, PyData.eqv])
    simp [F__law_told, B__law_told, sTry_, r, k1, k2, hh]
/-! the law's own helpers -/
theorem mulD_lt {x y : Int} (hx : x.natAbs < 2 ^ 250) (hy : y.natAbs < 2 ^ 250) : mulD (.int x) (.int y) = some (.int (x * y)) := by
  have h1 := log2_lt (x := x) (k := 250) (by omega) hx
  have h2 := log2_lt (x := y) (k := 250) (by omega) hy
  rw [mulD_int, if_pos (by omega)]
theorem fdivD_lt {x y : Int} (hy : 0 < y) (hy2 : y.natAbs < 2 ^ 250) : fdivD (.int x) (.int y) = some (.int (x / y)) := by
  have h2 := log2_lt (x := y) (k := 250) (by omega) hy2
  rw [fdivD_int, if_pos ⟨hy, by omega⟩]
def mx (n k : Int) : Int := ((n * 48271 + k * 69621 + 12345) % 2147483647 * ((n * 48271 + k * 69621 + 12345) % 2147483647 / 65536 + 3) + k) % 2147483647
theorem mx_lo (n k : Int) : 0 ≤ mx n k := Int.emod_nonneg _ (by decide)
theorem mx_hi (n k : Int) : mx n k < 2147483647 := Int.emod_lt_of_pos _ (by decide)
theorem mixed_ {n k : Int} (hn : n.natAbs < 2 ^ 64) (hk : k.natAbs < 2 ^ 64) : F__law_mixed [.d (.int n), .d (.int k)] [] = .ok (.d (.int (mx n k))) [] := by
  have h1 : mulD (.int n) (.int 48271) = some (.int (n * 48271)) := mulD_lt (Nat.lt_trans hn (by decide)) (by decide)
  have h2 : mulD (.int k) (.int 69621) = some (.int (k * 69621)) := mulD_lt (Nat.lt_trans hk (by decide)) (by decide)
  have h3 : ∀ x : Int, fdivD (.int x) (.int 65536) = some (.int (x / 65536)) := fun x => fdivD_lt (by decide) (by decide)
  have h4 : ∀ x y : Int, x.natAbs < 2 ^ 32 → y.natAbs < 2 ^ 32 → mulD (.int x) (.int y) = some (.int (x * y)) := fun x y hx hy => mulD_lt (Nat.lt_trans hx (by decide)) (Nat.lt_trans hy (by decide))
  have h5 : mulD (.int ((n * 48271 + k * 69621 + 12345) % 2147483647)) (.int ((n * 48271 + k * 69621 + 12345) % 2147483647 / 65536 + 3)) = some (.int ((n * 48271 + k * 69621 + 12345) % 2147483647 * ((n * 48271 + k * 69621 + 12345) % 2147483647 / 65536 + 3))) := by
    generalize n * 48271 + k * 69621 + 12345 = z
    have a1 : 0 ≤ z % 2147483647 := Int.emod_nonneg _ (by decide)
    have a2 : z % 2147483647 < 2147483647 := Int.emod_lt_of_pos _ (by decide)
    exact h4 _ _ (by omega) (by omega)
  simp only [F__law_mixed, B__law_mixed, mx]
  simp [h1, h2, h3, h5, -mulD_int, -fdivD_int]
/-- numbers of the law -/
def InR (l : List Int) : Prop := ∀ x ∈ l, 0 ≤ x ∧ x < 1000000
theorem inR_app {l : List Int} {x : Int} (h : InR l) (h1 : 0 ≤ x) (h2 : x < 1000000) : InR (l ++ [x]) := by
  intro y hy
  rcases List.mem_append.1 hy with hy | hy
  · exact h y hy
  · rw [List.mem_singleton.1 hy]; exact ⟨h1, h2⟩
theorem rngD_map (n : Nat) : ∀ (i : Int), rngD i n = ((List.range n).map fun (k : Nat) => i + (k : Int)).map .int := by
  intro i
  simp [rngD]
theorem num_in1 (x a b : S) : ∀ (js : List Int) (rest : Int) (acc : List Int) (c : S), InR acc → acc.length + js.length ≤ 10000 → ∃ acc' rest' c', gFor (gtN 4) (sIf (op2 gtD (eV 3) (eC (.int (0)))) (gSeq (sExp (eMt appG (eV 1) (aCons (eBin modD (eV 3) (eC (.int (1000000)))) aNil)))
            (sSet 3 (eBin fdivD (eV 3) (eC (.int (1000000)))))) gNil) (js.map .int) [x, .cel 0, a, .d (.int rest), c] [.lst (acc.map .int)] = .nx [x, .cel 0, a, .d (.int rest'), c'] [.lst (acc'.map .int)] ∧ InR acc' ∧ acc'.length ≤ acc.length + js.length
  | [], rest, acc, c, h1, h2 => ⟨acc, rest, c, by simp, h1, by simp⟩
  | j :: js, rest, acc, c, h1, h2 => by
    simp at h2
    have h3 : ∀ x : Int, fdivD (.int x) (.int 1000000) = some (.int (x / 1000000)) := fun x => fdivD_lt (by decide) (by decide)
    rw [List.map_cons, gFor_cons]
    by_cases hc : 0 < rest
    · obtain ⟨acc', rest', c', e, e1, e2⟩ := num_in1 x a b js (rest / 1000000) (acc ++ [rest % 1000000]) (.d (.int j)) (inR_app h1 (by omega) (by omega)) (by simp; omega)
      refine ⟨acc', rest', c', ?_, e1, by simp at e2 ⊢; omega⟩
      have l1 : acc.length < sizeLine := size_lt (by omega)
      have l2 : acc.length ≤ sizeLine := size_ok (by omega)
      simp at e
      simp [hc, h3, l1, l2, e, -fdivD_int]
    · obtain ⟨acc', rest', c', e, e1, e2⟩ := num_in1 x a b js rest acc (.d (.int j)) h1 (by omega)
      refine ⟨acc', rest', c', ?_, e1, by simp; omega⟩
      simp [hc, e]
theorem num_in2 (x b : S) (v : Int) : ∀ (js : List Int) (acc : List Int) (c : S), (∀ j ∈ js, 0 ≤ j ∧ j ≤ 10) → InR acc → acc.length + js.length ≤ 10000 → ∃ acc' c', gFor (gtN 4) (sExp (eMt appG (eV 1) (aCons (eBin modD (eFrz (eCall F__law_mixed (aCons (eFrz (eCall F__law_mixed (aCons (eBin modD (eV 2) (eC (.int (2147483647)))) (aCons (eV 4) aNil)))) (aCons (eBin addD (eV 4) (eC (.int (7)))) aNil)))) (eC (.int (1000000)))) aNil))) (js.map .int) [x, .cel 0, .d (.int v), b, c] [.lst (acc.map .int)] = .nx [x, .cel 0, .d (.int v), b, c'] [.lst (acc'.map .int)] ∧ InR acc' ∧ acc'.length ≤ acc.length + js.length
  | [], acc, c, h0, h1, h2 => ⟨acc, c, by simp, h1, by simp⟩
  | j :: js, acc, c, h0, h1, h2 => by
    simp at h2
    rw [List.map_cons, gFor_cons]
    have hj := h0 j (by simp)
    have a1 : 0 ≤ v % 2147483647 := Int.emod_nonneg _ (by decide)
    have a2 : v % 2147483647 < 2147483647 := Int.emod_lt_of_pos _ (by decide)
    have m1 := mixed_ (n := v % 2147483647) (k := j) (by omega) (by omega)
    have b1 := mx_lo (v % 2147483647) j
    have b2 := mx_hi (v % 2147483647) j
    have m2 := mixed_ (n := mx (v % 2147483647) j) (k := j + 7) (by omega) (by omega)
    obtain ⟨acc', c', e, e1, e2⟩ := num_in2 x b v js (acc ++ [mx (mx (v % 2147483647) j) (j + 7) % 1000000]) (.d (.int j)) (fun k hk => h0 k (by simp [hk])) (inR_app h1 (by omega) (by omega)) (by simp; omega)
    refine ⟨acc', c', ?_, e1, by simp at e2 ⊢; omega⟩
    have l1 : acc.length < sizeLine := size_lt (by omega)
    have l2 : acc.length ≤ sizeLine := size_ok (by omega)
    simp at e
    simp [m1, m2, l1, l2, e]
theorem num_out (x : S) : ∀ (ns : List Int) (acc : List Int) (a b c : S), InR acc → acc.length + 60 * ns.length ≤ 10000 → ∃ acc' a' b' c', gFor (gtN 2) (sIf (op2 geD (eV 2) (eBin powD (eC (.int (10))) (eC (.int (18))))) (gSeq (sSet 3 (eV 2))
        (sFor (gtN 4) (iRng (eC (.int (60)))) (sIf (op2 gtD (eV 3) (eC (.int (0)))) (gSeq (sExp (eMt appG (eV 1) (aCons (eBin modD (eV 3) (eC (.int (1000000)))) aNil)))
            (sSet 3 (eBin fdivD (eV 3) (eC (.int (1000000)))))) gNil))) (gSeq (sExp (eMt appG (eV 1) (aCons (eBin modD (eV 2) (eC (.int (1000000)))) aNil)))
        (sFor (gtN 4) (iRng (eC (.int (5)))) (sExp (eMt appG (eV 1) (aCons (eBin modD (eFrz (eCall F__law_mixed (aCons (eFrz (eCall F__law_mixed (aCons (eBin modD (eV 2) (eC (.int (2147483647)))) (aCons (eV 4) aNil)))) (aCons (eBin addD (eV 4) (eC (.int (7)))) aNil)))) (eC (.int (1000000)))) aNil)))))) (ns.map .int) [x, .cel 0, a, b, c] [.lst (acc.map .int)] = .nx [x, .cel 0, a', b', c'] [.lst (acc'.map .int)] ∧ InR acc' ∧ acc'.length ≤ acc.length + 60 * ns.length
  | [], acc, a, b, c, h1, h2 => ⟨acc, a, b, c, by simp, h1, by simp⟩
  | v :: ns, acc, a, b, c, h1, h2 => by
    simp at h2
    rw [List.map_cons, gFor_cons]
    by_cases hc : (1000000000000000000 : Int) ≤ v
    · obtain ⟨acc1, rest1, c1, e, e1, e2⟩ := num_in1 x (.d (.int v)) b ((List.range 60).map fun (k : Nat) => 0 + (k : Int)) v acc c h1 (by simp; omega)
      rw [← rngD_map] at e
      obtain ⟨acc', a', b', c', f, f1, f2⟩ := num_out x ns acc1 (.d (.int v)) (.d (.int rest1)) c1 e1 (by simp at e2; omega)
      refine ⟨acc', a', b', c', ?_, f1, by simp at e2 ⊢; omega⟩
      simp [hc, e, f]
    · have l1 : acc.length < sizeLine := size_lt (by omega)
      have l2 : acc.length ≤ sizeLine := size_ok (by omega)
      obtain ⟨acc1, c1, e, e1, e2⟩ := num_in2 x b v ((List.range 5).map fun (k : Nat) => 0 + (k : Int)) (acc ++ [v % 1000000]) c (by intro j hj; simp at hj; omega) (inR_app h1 (by omega) (by omega)) (by simp; omega)
      rw [← rngD_map] at e
      obtain ⟨acc', a', b', c', f, f1, f2⟩ := num_out x ns acc1 (.d (.int v)) b c1 e1 (by simp at e2; omega)
      refine ⟨acc', a', b', c', ?_, f1, by simp at e2 ⊢; omega⟩
      simp at e
      simp [hc, l1, l2, e, f]
theorem numbers_ (ns : List Int) (h : ns.length ≤ 100) : ∃ nums, F__law_numbers [.d (.list (ns.map .int))] [] = .ok (.own (.lst (nums.map .int))) [] ∧ InR nums ∧ nums.length ≤ 6000 := by
  obtain ⟨acc', a', b', c', f, f1, f2⟩ := num_out (.d (.list (ns.map .int))) ns [] .no .no .no (by intro x hx; cases hx) (by simp; omega)
  refine ⟨acc', ?_, f1, by simp at f2; omega⟩
  simp at f
  simp [F__law_numbers, B__law_numbers, f, fin_cel]
theorem gdI {l : List Int} {k : Nat} {d : Int} (h : k < l.length) : l.getD k d = l[k] := by
  simp [List.getD_eq_getElem?_getD, h]
/-- the draws, with further cells behind -/
def DSc (nums : List Int) (k : Nat) (c : Store) : Store := .lst [.list (nums.map .int), .int k] :: c
abbrev DS (nums : List Int) (k : Nat) : Store := DSc nums k []
def dr (nums : List Int) (k : Nat) : Int := if k < nums.length then nums.getD k 0 else mx (mx (if 0 < nums.length then 1 + (k : Int) + 1009 * nums.getD 0 0 else 1 + (k : Int)) k) 5 % 1000000
theorem dr_lo {nums : List Int} {k : Nat} (h : InR nums) : 0 ≤ dr nums k := by
  unfold dr
  split
  next hk => rw [gdI hk]; exact (h _ (List.getElem_mem hk)).1
  next => exact Int.emod_nonneg _ (by decide)
theorem dr_hi {nums : List Int} {k : Nat} (h : InR nums) : dr nums k < 1000000 := by
  unfold dr
  split
  next hk => rw [gdI hk]; exact (h _ (List.getElem_mem hk)).2
  next => exact Int.emod_lt_of_pos _ (by decide)
theorem draw_ {nums : List Int} {k : Nat} (h : InR nums) (hk : k < 1000000000000) : F__law_draw [.cel 0] (DS nums k) = .ok (.d (.int (dr nums k))) (DS nums (k + 1)) := by
  have i1 : ixN 2 1 = some 1 := rfl
  by_cases c : k < nums.length
  · have c1 : (k : Int) < nums.length := by omega
    have e1 : atI (nums.map PyData.int) (k : Int) = some (.int (dr nums k)) := by
      refine atI_of rfl ?_
      unfold dr
      rw [if_pos c, gdI c]
      simp [c]
    simp [F__law_draw, B__law_draw, DSc, i1, c1, e1]
  · have c1 : ¬ (k : Int) < nums.length := by omega
    by_cases c2 : 0 < nums.length
    · have c3 : 0 < (nums.length : Int) := by omega
      have c4 : nums.getD 0 0 = nums[0] := by rw [gdI c2]
      have c5 := h nums[0] (List.getElem_mem c2)
      have e1 : atI (nums.map PyData.int) (0 : Int) = some (.int (nums.getD 0 0)) := by
        refine atI_of (n := 0) rfl ?_
        rw [c4]
        simp [c2]
      have e2 : mulD (.int 1009) (.int (nums.getD 0 0)) = some (.int (1009 * nums.getD 0 0)) := mulD_lt (by decide) (Nat.lt_trans (m := 1000000) (by rw [c4]; omega) (by decide))
      have m1 := mixed_ (n := 1 + (k : Int) + 1009 * nums.getD 0 0) (k := k) (by rw [c4]; omega) (by omega)
      have b1 := mx_lo (1 + (k : Int) + 1009 * nums.getD 0 0) k
      have b2 := mx_hi (1 + (k : Int) + 1009 * nums.getD 0 0) k
      have m2 := mixed_ (n := mx (1 + (k : Int) + 1009 * nums.getD 0 0) k) (k := 5) (by omega) (by decide)
      have d1 : dr nums k = mx (mx (1 + (k : Int) + 1009 * nums.getD 0 0) k) 5 % 1000000 := by
        unfold dr; rw [if_neg c, if_pos c2]
      generalize nums.getD 0 0 = z at e1 e2 m1 m2 d1
      simp [F__law_draw, B__law_draw, DSc, i1, c1, c2, e1, e2, m1, m2, d1, -mulD_int]
    · have c3 : nums = [] := by
        cases nums with
        | nil => rfl
        | cons x l => simp at c2
      subst c3
      have m1 := mixed_ (n := 1 + (k : Int)) (k := k) (by omega) (by omega)
      have b1 := mx_lo (1 + (k : Int)) k
      have b2 := mx_hi (1 + (k : Int)) k
      have m2 := mixed_ (n := mx (1 + (k : Int)) k) (k := 5) (by omega) (by decide)
      have c1 : ¬ (k : Int) < 0 := by omega
      simp [F__law_draw, B__law_draw, DSc, i1, c1, m1, m2, dr]
section
variable {nums : List Int} {k k' : Nat} {c : Store}
@[simp] theorem DSc_len : (DSc nums k c).length = c.length + 1 := rfl
@[simp] theorem DSc_take (n : Nat) : (DSc nums k c).take (n + 1) = DSc nums k (c.take n) := rfl
@[simp] theorem DSc_take1 : (DSc nums k c).take 1 = DSc nums k [] := rfl
@[simp] theorem DSc_app (o : Store) : DSc nums k c ++ o = DSc nums k (c ++ o) := rfl
@[simp] theorem DSc_get (n : Nat) : (DSc nums k c)[n + 1]? = c[n]? := rfl
@[simp] theorem DSc_get1 : (DSc nums k c)[1]? = c[0]? := rfl
@[simp] theorem DSc_get2 : (DSc nums k c)[2]? = c[1]? := rfl
@[simp] theorem DSc_set (n : Nat) (o : OC) : (DSc nums k c).set (n + 1) o = DSc nums k (c.set n o) := rfl
@[simp] theorem DSc_set1 (o : OC) : (DSc nums k c).set 1 o = DSc nums k (c.set 0 o) := rfl
@[simp] theorem DSc_cel1 (xs : List D) (r : Store) : celM (.cel 1) (DSc nums k (.lst xs :: r)) = .ok (1, xs) (DSc nums k (.lst xs :: r)) := rfl
@[simp] theorem DSc_vws1 (xs : List D) (r : Store) : vwsM [.cel 1] (DSc nums k (.lst xs :: r)) = .ok [.list xs] (DSc nums k (.lst xs :: r)) := by
  rw [vwsM_cel [] (xs := xs) rfl]; rfl
theorem callC_DS {F : List S → M Rv} {r : List S} {x : D} (hr : noCel r = true) (e : F (.cel 0 :: r) (DSc nums k []) = .ok (.d x) (DSc nums k' [])) : callC F (.cel 0 :: r) (DSc nums k c) = .ok (.d x) (DSc nums k' c) := by
  simp only [DSc] at e ⊢
  simp [hr, e]
theorem callC_DSo {F : List S → M Rv} {r : List S} {x : OC} (hr : noCel r = true) (e : F (.cel 0 :: r) (DSc nums k []) = .ok (.own x) (DSc nums k' [])) : callC F (.cel 0 :: r) (DSc nums k c) = .ok (.own x) (DSc nums k' c) := by
  simp only [DSc] at e ⊢
  simp [hr, e]
theorem drc (h : InR nums) (hk : k < 1000000000000) (k' : Nat) (e : k' = k + 1) : callC F__law_draw [.cel 0] (DSc nums k c) = .ok (.d (.int (dr nums k))) (DSc nums k' c) := by
  subst e; exact callC_DS rfl (draw_ h hk)
end
theorem atI_mod {xs : List D} {P : D → Prop} (v : Int) (n : Int) (hn : n = (xs.length : Int)) (h0 : 0 < xs.length) (h : ∀ x ∈ xs, P x) : ∃ x, P x ∧ atI xs (v % n) = some x := by
  subst hn
  have a1 : 0 ≤ v % (xs.length : Int) := Int.emod_nonneg _ (by omega)
  have a2 : v % (xs.length : Int) < xs.length := Int.emod_lt_of_pos _ (by omega)
  have a3 : (v % (xs.length : Int)).toNat < xs.length := by omega
  refine ⟨xs[(v % (xs.length : Int)).toNat], h _ (List.getElem_mem a3), ?_⟩
  exact atI_of (n := (v % (xs.length : Int)).toNat) (by omega) (by simp [a3])
theorem cutD_to (xs : List D) (n : Nat) : cutD xs none (some (n : Int)) = xs.take n := by
  unfold cutD
  rw [HT.sIx_nat, HT.sIx_none]
  by_cases h : n ≤ xs.length
  · rw [Nat.min_eq_left h]; simp
  · rw [Nat.min_eq_right (by omega)]; simp; exact (List.take_of_length_le (by omega)).symm
/-- a generated step -/
def stG (nl kn : List Str) (tl : List D) (s : D) : Prop := ∃ n q to ts as post, s = .tuple [.str n, .str q, .tuple ts, .str to, .tuple as, .int post] ∧ n ∈ nl ∧ q ∈ kn ∧ to ∈ nl ∧
  (ts = [] ∨ tl ≠ [] ∧ ∃ a c : Int, 0 ≤ a ∧ a ≤ 1 ∧ 1 ≤ c ∧ c ≤ 2 ∧ ts = [.tuple [.str "t", .int a, .int c]]) ∧ (as = [] ∨ tl ≠ [] ∧ ∃ x : Int, -1 ≤ x ∧ x ≤ 2 ∧ as = [.tuple [.str "t", .int x]]) ∧ -3 ≤ post ∧ post ≤ 5
@[simp] theorem cutD_to0 (xs : List D) : cutD xs none (some 0) = [] := by rw [show (0 : Int) = ((0 : Nat) : Int) from rfl, cutD_to]; rfl
@[simp] theorem cutD_to1 (x : D) (xs : List D) : cutD (x :: xs) none (some 1) = [x] := by rw [show (1 : Int) = ((1 : Nat) : Int) from rfl, cutD_to]; rfl
section
variable {nums : List Int} (hn : InR nums) {nl kn : List Str} (hnl : 0 < nl.length) {tl : List D} (htl : tl.length ≤ 1) (ks s3 s4 : S) {calm : Int} {n q : Str} {kd : D} (hn1 : n ∈ nl) (hq : q ∈ kn) (hk : ixD kd (.int 0) = some (.str q))
include hn hnl htl hn1 hq hk
theorem steps_in : ∀ (js : List Int) (steps : List D) (k : Nat) (b10 b11 b12 b13 b14 : S), (∀ j ∈ js, j = 0 ∨ j = 1) → (∀ s ∈ steps, stG nl kn tl s) → steps.length + js.length ≤ 1000 → k + 10 * js.length < 100000000 →
    ∃ k' steps' c10 c11 c12 c13 c14, gFor (gtN 10) (gSeq (sSet 11 (eSl (eTup (aCons (eTup (aCons (eC (.str "t")) (aCons (eBin modD (eFrz (eCallC F__law_draw (aCons (eV 0) aNil))) (eC (.int (2)))) (aCons (eBin addD (eC (.int (1))) (eBin modD (eFrz (eCallC F__law_draw (aCons (eV 0) aNil))) (eC (.int (2))))) aNil)))) aNil)) oNone (oSome (eBin mulD (eCd lenG (aCons (eV 5) aNil)) (eBin subD (eC (.int (1))) (eV 10))))))
          (gSeq (sSet 12 (eSl (eTup (aCons (eTup (aCons (eC (.str "t")) (aCons (eBin ixD (eFrz (eLst (aCons (eC (.int (1))) (aCons (eC (.int (1))) (aCons (eNeg (eC (.int (1)))) (aCons (eC (.int (2))) (aCons (eC (.int (0))) aNil))))))) (eBin modD (eFrz (eCallC F__law_draw (aCons (eV 0) aNil))) (eC (.int (5))))) aNil))) aNil)) oNone (oSome (eCd lenG (aCons (eV 5) aNil)))))
          (gSeq (sSet 13 (eIf (op2 gtD (eV 7) (eC (.int (0)))) (eBin ixD (eV 2) (eBin modD (eFrz (eCallC F__law_draw (aCons (eV 0) aNil))) (eCd lenG (aCons (eV 2) aNil)))) (eV 8)))
          (gSeq (sSet 14 (eIf (op2 ltD (eV 7) (eC (.int (2)))) (eBin ixD (eFrz (eLst (aCons (eC (.int (0))) (aCons (eC (.int (0))) (aCons (eC (.int (5))) (aCons (eNeg (eC (.int (3)))) aNil)))))) (eBin modD (eFrz (eCallC F__law_draw (aCons (eV 0) aNil))) (eC (.int (4))))) (eC (.int (0)))))
          (sIf (op2 gtD (eBin modD (eFrz (eCallC F__law_draw (aCons (eV 0) aNil))) (eC (.int (6)))) (eC (.int (0)))) (sExp (eMt appG (eV 6) (aCons (eTup (aCons (eV 8) (aCons (eBin ixD (eV 9) (eC (.int (0)))) (aCons (eV 11) (aCons (eV 13) (aCons (eV 12) (aCons (eV 14) aNil))))))) aNil))) gNil))))) (js.map .int) [.cel 0, ks, .d (.list (nl.map .str)), s3, s4, .d (.tuple tl), .cel 1, .d (.int calm), .d (.str n), .d kd, b10, b11, b12, b13, b14] (DSc nums k [.lst steps]) =
      .nx [.cel 0, ks, .d (.list (nl.map .str)), s3, s4, .d (.tuple tl), .cel 1, .d (.int calm), .d (.str n), .d kd, c10, c11, c12, c13, c14] (DSc nums k' [.lst steps']) ∧ (∀ s ∈ steps', stG nl kn tl s) ∧ steps'.length ≤ steps.length + js.length ∧ k' ≤ k + 10 * js.length
  | [], steps, k, b10, b11, b12, b13, b14, _, h1, _, _ => ⟨k, steps, b10, b11, b12, b13, b14, by simp, h1, by simp, by simp⟩
  | j :: js, steps, k, b10, b11, b12, b13, b14, hj, h1, h2, h3 => by
    simp only [List.length_cons] at h2 h3
    have hj0 := hj j (by simp)
    have d0 : ∀ c, callC F__law_draw [.cel 0] (DSc nums k c) = .ok (.d (.int (dr nums k))) (DSc nums (k + 1) c) := fun c => drc hn (by omega) _ rfl
    have d1 : ∀ c, callC F__law_draw [.cel 0] (DSc nums (k + 1) c) = .ok (.d (.int (dr nums (k + 1)))) (DSc nums (k + 2) c) := fun c => drc hn (by omega) _ rfl
    have d2 : ∀ c, callC F__law_draw [.cel 0] (DSc nums (k + 2) c) = .ok (.d (.int (dr nums (k + 2)))) (DSc nums (k + 3) c) := fun c => drc hn (by omega) _ rfl
    have d3 : ∀ c, callC F__law_draw [.cel 0] (DSc nums (k + 3) c) = .ok (.d (.int (dr nums (k + 3)))) (DSc nums (k + 4) c) := fun c => drc hn (by omega) _ rfl
    have d4 : ∀ c, callC F__law_draw [.cel 0] (DSc nums (k + 4) c) = .ok (.d (.int (dr nums (k + 4)))) (DSc nums (k + 5) c) := fun c => drc hn (by omega) _ rfl
    have d5 : ∀ c, callC F__law_draw [.cel 0] (DSc nums (k + 5) c) = .ok (.d (.int (dr nums (k + 5)))) (DSc nums (k + 6) c) := fun c => drc hn (by omega) _ rfl
    obtain ⟨_, ⟨x, rfl, x1, x2⟩, hx⟩ := atI_mod (xs := [.int 1, .int 1, .int (-1), .int 2, .int 0]) (P := fun x => ∃ i, x = .int i ∧ -1 ≤ i ∧ i ≤ 2) (dr nums (k + 2)) 5 rfl (by decide) (by simp)
    have lens : (nl.map PyData.str).length = nl.length := by simp
    have toX : ∀ v : Int, ∃ w, w ∈ nl ∧ atI (nl.map PyData.str) (v % (nl.length : Int)) = some (.str w) := fun v => by
      obtain ⟨_, ⟨w, rfl, hw⟩, e⟩ := atI_mod (xs := nl.map .str) (P := fun x => ∃ w, x = .str w ∧ w ∈ nl) v nl.length (by simp) (by simpa using hnl) (by simp)
      exact ⟨w, hw, e⟩
    have nlp : (0 : Int) < nl.length := by omega
    have postX : ∀ v : Int, ∃ i : Int, -3 ≤ i ∧ i ≤ 5 ∧ atI [PyData.int 0, .int 0, .int 5, .int (-3)] (v % 4) = some (.int i) := fun v => by
      obtain ⟨_, ⟨i, rfl, i1, i2⟩, e⟩ := atI_mod (xs := [.int 0, .int 0, .int 5, .int (-3)]) (P := fun x => ∃ i, x = .int i ∧ -3 ≤ i ∧ i ≤ 5) v 4 rfl (by decide) (by simp)
      exact ⟨i, i1, i2, e⟩
    obtain ⟨w3, w3m, w3e⟩ := toX (dr nums (k + 3))
    obtain ⟨i3, i3a, i3b, i3e⟩ := postX (dr nums (k + 3))
    obtain ⟨i4, i4a, i4b, i4e⟩ := postX (dr nums (k + 4))
    have l1 : steps.length < sizeLine := size_lt (by omega)
    have l2 : steps.length ≤ sizeLine := size_ok (by omega)
    have lg0 : Nat.log2 0 = 0 := by decide
    have lg1 : Nat.log2 1 = 0 := by decide
    have lj : (1 - j).natAbs.log2 < 1000000 := by rcases hj0 with rfl | rfl <;> decide
    have q1 : 0 ≤ dr nums k % 2 := by omega
    have q2 : dr nums k % 2 ≤ 1 := by omega
    have q3 : 1 ≤ 1 + dr nums (k + 1) % 2 := by omega
    have q4 : 1 + dr nums (k + 1) % 2 ≤ 2 := by omega
    have one : ∃ k2 steps2 c11 c12 c13 c14, (gSeq (sSet 11 (eSl (eTup (aCons (eTup (aCons (eC (.str "t")) (aCons (eBin modD (eFrz (eCallC F__law_draw (aCons (eV 0) aNil))) (eC (.int (2)))) (aCons (eBin addD (eC (.int (1))) (eBin modD (eFrz (eCallC F__law_draw (aCons (eV 0) aNil))) (eC (.int (2))))) aNil)))) aNil)) oNone (oSome (eBin mulD (eCd lenG (aCons (eV 5) aNil)) (eBin subD (eC (.int (1))) (eV 10))))))
          (gSeq (sSet 12 (eSl (eTup (aCons (eTup (aCons (eC (.str "t")) (aCons (eBin ixD (eFrz (eLst (aCons (eC (.int (1))) (aCons (eC (.int (1))) (aCons (eNeg (eC (.int (1)))) (aCons (eC (.int (2))) (aCons (eC (.int (0))) aNil))))))) (eBin modD (eFrz (eCallC F__law_draw (aCons (eV 0) aNil))) (eC (.int (5))))) aNil))) aNil)) oNone (oSome (eCd lenG (aCons (eV 5) aNil)))))
          (gSeq (sSet 13 (eIf (op2 gtD (eV 7) (eC (.int (0)))) (eBin ixD (eV 2) (eBin modD (eFrz (eCallC F__law_draw (aCons (eV 0) aNil))) (eCd lenG (aCons (eV 2) aNil)))) (eV 8)))
          (gSeq (sSet 14 (eIf (op2 ltD (eV 7) (eC (.int (2)))) (eBin ixD (eFrz (eLst (aCons (eC (.int (0))) (aCons (eC (.int (0))) (aCons (eC (.int (5))) (aCons (eNeg (eC (.int (3)))) aNil)))))) (eBin modD (eFrz (eCallC F__law_draw (aCons (eV 0) aNil))) (eC (.int (4))))) (eC (.int (0)))))
          (sIf (op2 gtD (eBin modD (eFrz (eCallC F__law_draw (aCons (eV 0) aNil))) (eC (.int (6)))) (eC (.int (0)))) (sExp (eMt appG (eV 6) (aCons (eTup (aCons (eV 8) (aCons (eBin ixD (eV 9) (eC (.int (0)))) (aCons (eV 11) (aCons (eV 13) (aCons (eV 12) (aCons (eV 14) aNil))))))) aNil))) gNil))))) [.cel 0, ks, .d (.list (nl.map .str)), s3, s4, .d (.tuple tl), .cel 1, .d (.int calm), .d (.str n), .d kd, .d (.int j), b11, b12, b13, b14] (DSc nums k [.lst steps]) =
        .nx [.cel 0, ks, .d (.list (nl.map .str)), s3, s4, .d (.tuple tl), .cel 1, .d (.int calm), .d (.str n), .d kd, .d (.int j), c11, c12, c13, c14] (DSc nums k2 [.lst steps2]) ∧ (∀ s ∈ steps2, stG nl kn tl s) ∧ steps2.length ≤ steps.length + 1 ∧ k2 ≤ k + 10 := by
      have fin : ∀ (ts as : List D) (to : Str) (post : Int) (b : Bool), to ∈ nl → (ts = [] ∨ tl ≠ [] ∧ ∃ a c : Int, 0 ≤ a ∧ a ≤ 1 ∧ 1 ≤ c ∧ c ≤ 2 ∧ ts = [.tuple [.str "t", .int a, .int c]]) → (as = [] ∨ tl ≠ [] ∧ ∃ x : Int, -1 ≤ x ∧ x ≤ 2 ∧ as = [.tuple [.str "t", .int x]]) → -3 ≤ post → post ≤ 5 →
          ∀ s ∈ steps ++ [.tuple [.str n, .str q, .tuple ts, .str to, .tuple as, .int post]], stG nl kn tl s := fun ts as to post b hto hts has p1 p2 s hs => by
        rcases List.mem_append.1 hs with hs | hs
        · exact h1 s hs
        · rw [List.mem_singleton.1 hs]
          exact ⟨n, q, to, ts, as, post, rfl, hn1, hq, hto, hts, has, p1, p2⟩
      cases tl with
      | nil =>
        by_cases ca : 0 < calm
        · by_cases cb : calm < 2
          · by_cases cc : 0 < dr nums (k + 5) % 6
            · exact ⟨k + 6, steps ++ [.tuple [.str n, .str q, .tuple [], .str w3, .tuple [], .int i4]], .d (.tuple []), .d (.tuple []), .d (.str w3), .d (.int i4), by simp [d0, d1, d2, d3, d4, d5, hx, hk, w3e, i4e, l1, l2, ca, cb, cc, nlp, hnl, lj, lg0, lg1, -callC_], fin [] [] w3 i4 true w3m (.inl rfl) (.inl rfl) i4a i4b, by simp, by omega⟩
            · exact ⟨k + 6, steps, .d (.tuple []), .d (.tuple []), .d (.str w3), .d (.int i4), by simp [d0, d1, d2, d3, d4, d5, hx, hk, w3e, i4e, l1, l2, ca, cb, cc, nlp, hnl, lj, lg0, lg1, -callC_], h1, by omega, by omega⟩
          · by_cases cc : 0 < dr nums (k + 4) % 6
            · exact ⟨k + 5, steps ++ [.tuple [.str n, .str q, .tuple [], .str w3, .tuple [], .int 0]], .d (.tuple []), .d (.tuple []), .d (.str w3), .d (.int 0), by simp [d0, d1, d2, d3, d4, d5, hx, hk, w3e, i4e, l1, l2, ca, cb, cc, nlp, hnl, lj, lg0, lg1, -callC_], fin [] [] w3 0 true w3m (.inl rfl) (.inl rfl) (by omega) (by omega), by simp, by omega⟩
            · exact ⟨k + 5, steps, .d (.tuple []), .d (.tuple []), .d (.str w3), .d (.int 0), by simp [d0, d1, d2, d3, d4, d5, hx, hk, w3e, i4e, l1, l2, ca, cb, cc, nlp, hnl, lj, lg0, lg1, -callC_], h1, by omega, by omega⟩
        · have cb : calm < 2 := by omega
          by_cases cc : 0 < dr nums (k + 4) % 6
          · exact ⟨k + 5, steps ++ [.tuple [.str n, .str q, .tuple [], .str n, .tuple [], .int i3]], .d (.tuple []), .d (.tuple []), .d (.str n), .d (.int i3), by simp [d0, d1, d2, d3, d4, d5, hx, hk, w3e, i3e, l1, l2, ca, cb, cc, nlp, hnl, lj, lg0, lg1, -callC_], fin [] [] n i3 true hn1 (.inl rfl) (.inl rfl) i3a i3b, by simp, by omega⟩
          · exact ⟨k + 5, steps, .d (.tuple []), .d (.tuple []), .d (.str n), .d (.int i3), by simp [d0, d1, d2, d3, d4, d5, hx, hk, w3e, i3e, l1, l2, ca, cb, cc, nlp, hnl, lj, lg0, lg1, -callC_], h1, by omega, by omega⟩
      | cons y tl' =>
        have e0 : tl' = [] := by
          cases tl' with
          | nil => rfl
          | cons a b => simp at htl
        subst e0
        rcases hj0 with rfl | rfl
        · by_cases ca : 0 < calm
          · by_cases cb : calm < 2
            · by_cases cc : 0 < dr nums (k + 5) % 6
              · exact ⟨k + 6, steps ++ [.tuple [.str n, .str q, .tuple [.tuple [.str "t", .int (dr nums k % 2), .int (1 + dr nums (k + 1) % 2)]], .str w3, .tuple [.tuple [.str "t", .int x]], .int i4]], .d (.tuple [.tuple [.str "t", .int (dr nums k % 2), .int (1 + dr nums (k + 1) % 2)]]), .d (.tuple [.tuple [.str "t", .int x]]), .d (.str w3), .d (.int i4), by simp [d0, d1, d2, d3, d4, d5, hx, hk, w3e, i4e, l1, l2, ca, cb, cc, nlp, hnl, lj, lg0, lg1, -callC_], fin [.tuple [.str "t", .int (dr nums k % 2), .int (1 + dr nums (k + 1) % 2)]] [.tuple [.str "t", .int x]] w3 i4 true w3m (.inr ⟨by simp, dr nums k % 2, 1 + dr nums (k + 1) % 2, q1, q2, q3, q4, rfl⟩) (.inr ⟨by simp, x, x1, x2, rfl⟩) i4a i4b, by simp, by omega⟩
              · exact ⟨k + 6, steps, .d (.tuple [.tuple [.str "t", .int (dr nums k % 2), .int (1 + dr nums (k + 1) % 2)]]), .d (.tuple [.tuple [.str "t", .int x]]), .d (.str w3), .d (.int i4), by simp [d0, d1, d2, d3, d4, d5, hx, hk, w3e, i4e, l1, l2, ca, cb, cc, nlp, hnl, lj, lg0, lg1, -callC_], h1, by omega, by omega⟩
            · by_cases cc : 0 < dr nums (k + 4) % 6
              · exact ⟨k + 5, steps ++ [.tuple [.str n, .str q, .tuple [.tuple [.str "t", .int (dr nums k % 2), .int (1 + dr nums (k + 1) % 2)]], .str w3, .tuple [.tuple [.str "t", .int x]], .int 0]], .d (.tuple [.tuple [.str "t", .int (dr nums k % 2), .int (1 + dr nums (k + 1) % 2)]]), .d (.tuple [.tuple [.str "t", .int x]]), .d (.str w3), .d (.int 0), by simp [d0, d1, d2, d3, d4, d5, hx, hk, w3e, i4e, l1, l2, ca, cb, cc, nlp, hnl, lj, lg0, lg1, -callC_], fin [.tuple [.str "t", .int (dr nums k % 2), .int (1 + dr nums (k + 1) % 2)]] [.tuple [.str "t", .int x]] w3 0 true w3m (.inr ⟨by simp, dr nums k % 2, 1 + dr nums (k + 1) % 2, q1, q2, q3, q4, rfl⟩) (.inr ⟨by simp, x, x1, x2, rfl⟩) (by omega) (by omega), by simp, by omega⟩
              · exact ⟨k + 5, steps, .d (.tuple [.tuple [.str "t", .int (dr nums k % 2), .int (1 + dr nums (k + 1) % 2)]]), .d (.tuple [.tuple [.str "t", .int x]]), .d (.str w3), .d (.int 0), by simp [d0, d1, d2, d3, d4, d5, hx, hk, w3e, i4e, l1, l2, ca, cb, cc, nlp, hnl, lj, lg0, lg1, -callC_], h1, by omega, by omega⟩
          · have cb : calm < 2 := by omega
            by_cases cc : 0 < dr nums (k + 4) % 6
            · exact ⟨k + 5, steps ++ [.tuple [.str n, .str q, .tuple [.tuple [.str "t", .int (dr nums k % 2), .int (1 + dr nums (k + 1) % 2)]], .str n, .tuple [.tuple [.str "t", .int x]], .int i3]], .d (.tuple [.tuple [.str "t", .int (dr nums k % 2), .int (1 + dr nums (k + 1) % 2)]]), .d (.tuple [.tuple [.str "t", .int x]]), .d (.str n), .d (.int i3), by simp [d0, d1, d2, d3, d4, d5, hx, hk, w3e, i3e, l1, l2, ca, cb, cc, nlp, hnl, lj, lg0, lg1, -callC_], fin [.tuple [.str "t", .int (dr nums k % 2), .int (1 + dr nums (k + 1) % 2)]] [.tuple [.str "t", .int x]] n i3 true hn1 (.inr ⟨by simp, dr nums k % 2, 1 + dr nums (k + 1) % 2, q1, q2, q3, q4, rfl⟩) (.inr ⟨by simp, x, x1, x2, rfl⟩) i3a i3b, by simp, by omega⟩
            · exact ⟨k + 5, steps, .d (.tuple [.tuple [.str "t", .int (dr nums k % 2), .int (1 + dr nums (k + 1) % 2)]]), .d (.tuple [.tuple [.str "t", .int x]]), .d (.str n), .d (.int i3), by simp [d0, d1, d2, d3, d4, d5, hx, hk, w3e, i3e, l1, l2, ca, cb, cc, nlp, hnl, lj, lg0, lg1, -callC_], h1, by omega, by omega⟩
        · by_cases ca : 0 < calm
          · by_cases cb : calm < 2
            · by_cases cc : 0 < dr nums (k + 5) % 6
              · exact ⟨k + 6, steps ++ [.tuple [.str n, .str q, .tuple [], .str w3, .tuple [.tuple [.str "t", .int x]], .int i4]], .d (.tuple []), .d (.tuple [.tuple [.str "t", .int x]]), .d (.str w3), .d (.int i4), by simp [d0, d1, d2, d3, d4, d5, hx, hk, w3e, i4e, l1, l2, ca, cb, cc, nlp, hnl, lj, lg0, lg1, -callC_], fin [] [.tuple [.str "t", .int x]] w3 i4 true w3m (.inl rfl) (.inr ⟨by simp, x, x1, x2, rfl⟩) i4a i4b, by simp, by omega⟩
              · exact ⟨k + 6, steps, .d (.tuple []), .d (.tuple [.tuple [.str "t", .int x]]), .d (.str w3), .d (.int i4), by simp [d0, d1, d2, d3, d4, d5, hx, hk, w3e, i4e, l1, l2, ca, cb, cc, nlp, hnl, lj, lg0, lg1, -callC_], h1, by omega, by omega⟩
            · by_cases cc : 0 < dr nums (k + 4) % 6
              · exact ⟨k + 5, steps ++ [.tuple [.str n, .str q, .tuple [], .str w3, .tuple [.tuple [.str "t", .int x]], .int 0]], .d (.tuple []), .d (.tuple [.tuple [.str "t", .int x]]), .d (.str w3), .d (.int 0), by simp [d0, d1, d2, d3, d4, d5, hx, hk, w3e, i4e, l1, l2, ca, cb, cc, nlp, hnl, lj, lg0, lg1, -callC_], fin [] [.tuple [.str "t", .int x]] w3 0 true w3m (.inl rfl) (.inr ⟨by simp, x, x1, x2, rfl⟩) (by omega) (by omega), by simp, by omega⟩
              · exact ⟨k + 5, steps, .d (.tuple []), .d (.tuple [.tuple [.str "t", .int x]]), .d (.str w3), .d (.int 0), by simp [d0, d1, d2, d3, d4, d5, hx, hk, w3e, i4e, l1, l2, ca, cb, cc, nlp, hnl, lj, lg0, lg1, -callC_], h1, by omega, by omega⟩
          · have cb : calm < 2 := by omega
            by_cases cc : 0 < dr nums (k + 4) % 6
            · exact ⟨k + 5, steps ++ [.tuple [.str n, .str q, .tuple [], .str n, .tuple [.tuple [.str "t", .int x]], .int i3]], .d (.tuple []), .d (.tuple [.tuple [.str "t", .int x]]), .d (.str n), .d (.int i3), by simp [d0, d1, d2, d3, d4, d5, hx, hk, w3e, i3e, l1, l2, ca, cb, cc, nlp, hnl, lj, lg0, lg1, -callC_], fin [] [.tuple [.str "t", .int x]] n i3 true hn1 (.inl rfl) (.inr ⟨by simp, x, x1, x2, rfl⟩) i3a i3b, by simp, by omega⟩
            · exact ⟨k + 5, steps, .d (.tuple []), .d (.tuple [.tuple [.str "t", .int x]]), .d (.str n), .d (.int i3), by simp [d0, d1, d2, d3, d4, d5, hx, hk, w3e, i3e, l1, l2, ca, cb, cc, nlp, hnl, lj, lg0, lg1, -callC_], h1, by omega, by omega⟩
    obtain ⟨k2, steps2, c11, c12, c13, c14, e, g1, g2, g3⟩ := one
    obtain ⟨k', steps', e10, e11, e12, e13, e14, f, f1, f2, f3⟩ := steps_in js steps2 k2 (.d (.int j)) c11 c12 c13 c14 (fun y hy => hj y (by simp [hy])) g1 (by omega) (by omega)
    refine ⟨k', steps', e10, e11, e12, e13, e14, ?_, f1, by simp only [List.length_cons]; omega, by simp only [List.length_cons]; omega⟩
    rw [List.map_cons, gFor_cons]
    rw [show gtN 10 (PyData.int j) [.cel 0, ks, .d (.list (nl.map .str)), s3, s4, .d (.tuple tl), .cel 1, .d (.int calm), .d (.str n), .d kd, b10, b11, b12, b13, b14] = some [.cel 0, ks, .d (.list (nl.map .str)), s3, s4, .d (.tuple tl), .cel 1, .d (.int calm), .d (.str n), .d kd, .d (.int j), b11, b12, b13, b14] from rfl]
    simp only [e, f]
end
section
variable {nums : List Int} (hn : InR nums) {nl kn : List Str} (hnl : 0 < nl.length) {tl : List D} (htl : tl.length ≤ 1) (ks s3 s4 : S) {calm : Int}
include hn hnl htl
theorem steps_mid {n : Str} (hn1 : n ∈ nl) : ∀ (kl : List D) (steps : List D) (k : Nat) (b9 b10 b11 b12 b13 b14 : S), (∀ kd ∈ kl, ∃ q, q ∈ kn ∧ ixD kd (.int 0) = some (.str q)) → (∀ s ∈ steps, stG nl kn tl s) → steps.length + 2 * kl.length ≤ 1000 → k + 30 * kl.length < 100000000 →
    ∃ k' steps' c9 c10 c11 c12 c13 c14, gFor (gtN 9) (sFor (gtN 10) (iRng (eBin addD (eC (.int (1))) (eBin mulD (eBin modD (eFrz (eCallC F__law_draw (aCons (eV 0) aNil))) (eC (.int (2)))) (eCd lenG (aCons (eV 5) aNil))))) (gSeq (sSet 11 (eSl (eTup (aCons (eTup (aCons (eC (.str "t")) (aCons (eBin modD (eFrz (eCallC F__law_draw (aCons (eV 0) aNil))) (eC (.int (2)))) (aCons (eBin addD (eC (.int (1))) (eBin modD (eFrz (eCallC F__law_draw (aCons (eV 0) aNil))) (eC (.int (2))))) aNil)))) aNil)) oNone (oSome (eBin mulD (eCd lenG (aCons (eV 5) aNil)) (eBin subD (eC (.int (1))) (eV 10))))))
          (gSeq (sSet 12 (eSl (eTup (aCons (eTup (aCons (eC (.str "t")) (aCons (eBin ixD (eFrz (eLst (aCons (eC (.int (1))) (aCons (eC (.int (1))) (aCons (eNeg (eC (.int (1)))) (aCons (eC (.int (2))) (aCons (eC (.int (0))) aNil))))))) (eBin modD (eFrz (eCallC F__law_draw (aCons (eV 0) aNil))) (eC (.int (5))))) aNil))) aNil)) oNone (oSome (eCd lenG (aCons (eV 5) aNil)))))
          (gSeq (sSet 13 (eIf (op2 gtD (eV 7) (eC (.int (0)))) (eBin ixD (eV 2) (eBin modD (eFrz (eCallC F__law_draw (aCons (eV 0) aNil))) (eCd lenG (aCons (eV 2) aNil)))) (eV 8)))
          (gSeq (sSet 14 (eIf (op2 ltD (eV 7) (eC (.int (2)))) (eBin ixD (eFrz (eLst (aCons (eC (.int (0))) (aCons (eC (.int (0))) (aCons (eC (.int (5))) (aCons (eNeg (eC (.int (3)))) aNil)))))) (eBin modD (eFrz (eCallC F__law_draw (aCons (eV 0) aNil))) (eC (.int (4))))) (eC (.int (0)))))
          (sIf (op2 gtD (eBin modD (eFrz (eCallC F__law_draw (aCons (eV 0) aNil))) (eC (.int (6)))) (eC (.int (0)))) (sExp (eMt appG (eV 6) (aCons (eTup (aCons (eV 8) (aCons (eBin ixD (eV 9) (eC (.int (0)))) (aCons (eV 11) (aCons (eV 13) (aCons (eV 12) (aCons (eV 14) aNil))))))) aNil))) gNil)))))) kl [.cel 0, ks, .d (.list (nl.map .str)), s3, s4, .d (.tuple tl), .cel 1, .d (.int calm), .d (.str n), b9, b10, b11, b12, b13, b14] (DSc nums k [.lst steps]) =
      .nx [.cel 0, ks, .d (.list (nl.map .str)), s3, s4, .d (.tuple tl), .cel 1, .d (.int calm), .d (.str n), c9, c10, c11, c12, c13, c14] (DSc nums k' [.lst steps']) ∧ (∀ s ∈ steps', stG nl kn tl s) ∧ steps'.length ≤ steps.length + 2 * kl.length ∧ k' ≤ k + 30 * kl.length
  | [], steps, k, b9, b10, b11, b12, b13, b14, _, h1, _, _ => ⟨k, steps, b9, b10, b11, b12, b13, b14, by simp, h1, by simp, by simp⟩
  | kd :: kl, steps, k, b9, b10, b11, b12, b13, b14, hk, h1, h2, h3 => by
    simp only [List.length_cons] at h2 h3
    obtain ⟨q, hq, hkq⟩ := hk kd (by simp)
    have d0 : ∀ c, callC F__law_draw [.cel 0] (DSc nums k c) = .ok (.d (.int (dr nums k))) (DSc nums (k + 1) c) := fun c => drc hn (by omega) _ rfl
    obtain ⟨m, hm2, hm⟩ : ∃ m : Nat, m ≤ 2 ∧ 1 + dr nums k % 2 * (tl.length : Int) = (m : Int) := by
      have t0 : tl.length = 0 ∨ tl.length = 1 := by omega
      rcases t0 with t0 | t0 <;> rw [t0]
      · exact ⟨1, by omega, by omega⟩
      · exact ⟨(1 + dr nums k % 2).toNat, by omega, by omega⟩
    have ml : mulD (.int (dr nums k % 2)) (.int (tl.length : Int)) = some (.int (dr nums k % 2 * (tl.length : Int))) := mulD_lt (Nat.lt_trans (m := 10) (by omega) (by decide)) (Nat.lt_trans (m := 10) (by omega) (by decide))
    obtain ⟨k2, st2, c10, c11, c12, c13, c14, e, g1, g2, g3⟩ := steps_in hn hnl htl ks s3 s4 (calm := calm) hn1 hq hkq ((List.range m).map fun (i : Nat) => 0 + (i : Int)) steps (k + 1) b10 b11 b12 b13 b14 (by intro j hj; simp at hj; omega) h1 (by simp; omega) (by simp; omega)
    rw [← rngD_map] at e
    simp at g2 g3
    obtain ⟨k', st', e9, e10, e11, e12, e13, e14, f, f1, f2, f3⟩ := steps_mid hn1 kl st2 k2 (.d kd) c10 c11 c12 c13 c14 (fun y hy => hk y (by simp [hy])) g1 (by omega) (by omega)
    refine ⟨k', st', e9, e10, e11, e12, e13, e14, ?_, f1, by simp only [List.length_cons]; omega, by simp only [List.length_cons]; omega⟩
    rw [gFor_cons]
    have r1 : -(2 ^ 62) ≤ (m : Int) ∧ (m : Int) < 2 ^ 62 := by omega
    have r2 : (m : Int).toNat = m := by omega
    simp only [gtN_, List.set_cons_succ, List.set_cons_zero, sFor_, stp_, iRng_, bnd_, eBin_, op2_, eC_, vwM_d, eFrz_, eCallC_, aCons_, eV_, List.getElem?_cons_zero, List.getElem?_cons_succ, ret_, aNil_, d0, frz_d, modD_int, eCd_, vwsM_d, vwsM_nil, lenG_tuple, ofO_some, ml, addD_int, hm, r1, r2, and_self, if_true, show ((0 : Int) < 2) = True from by simp, e, f]
theorem steps_out : ∀ (ml : List Str) (steps : List D) (kl : List D) (k : Nat) (b8 b9 b10 b11 b12 b13 b14 : S), (∀ n ∈ ml, n ∈ nl) → (∀ kd ∈ kl, ∃ q, q ∈ kn ∧ ixD kd (.int 0) = some (.str q)) → kl.length ≤ 3 → (∀ s ∈ steps, stG nl kn tl s) → steps.length + 6 * ml.length ≤ 1000 → k + 100 * ml.length < 100000000 →
    ∃ k' steps' c8 c9 c10 c11 c12 c13 c14, gFor (gtN 8) (sFor (gtN 9) (iAnyM (eV 1)) (sFor (gtN 10) (iRng (eBin addD (eC (.int (1))) (eBin mulD (eBin modD (eFrz (eCallC F__law_draw (aCons (eV 0) aNil))) (eC (.int (2)))) (eCd lenG (aCons (eV 5) aNil))))) (gSeq (sSet 11 (eSl (eTup (aCons (eTup (aCons (eC (.str "t")) (aCons (eBin modD (eFrz (eCallC F__law_draw (aCons (eV 0) aNil))) (eC (.int (2)))) (aCons (eBin addD (eC (.int (1))) (eBin modD (eFrz (eCallC F__law_draw (aCons (eV 0) aNil))) (eC (.int (2))))) aNil)))) aNil)) oNone (oSome (eBin mulD (eCd lenG (aCons (eV 5) aNil)) (eBin subD (eC (.int (1))) (eV 10))))))
          (gSeq (sSet 12 (eSl (eTup (aCons (eTup (aCons (eC (.str "t")) (aCons (eBin ixD (eFrz (eLst (aCons (eC (.int (1))) (aCons (eC (.int (1))) (aCons (eNeg (eC (.int (1)))) (aCons (eC (.int (2))) (aCons (eC (.int (0))) aNil))))))) (eBin modD (eFrz (eCallC F__law_draw (aCons (eV 0) aNil))) (eC (.int (5))))) aNil))) aNil)) oNone (oSome (eCd lenG (aCons (eV 5) aNil)))))
          (gSeq (sSet 13 (eIf (op2 gtD (eV 7) (eC (.int (0)))) (eBin ixD (eV 2) (eBin modD (eFrz (eCallC F__law_draw (aCons (eV 0) aNil))) (eCd lenG (aCons (eV 2) aNil)))) (eV 8)))
          (gSeq (sSet 14 (eIf (op2 ltD (eV 7) (eC (.int (2)))) (eBin ixD (eFrz (eLst (aCons (eC (.int (0))) (aCons (eC (.int (0))) (aCons (eC (.int (5))) (aCons (eNeg (eC (.int (3)))) aNil)))))) (eBin modD (eFrz (eCallC F__law_draw (aCons (eV 0) aNil))) (eC (.int (4))))) (eC (.int (0)))))
          (sIf (op2 gtD (eBin modD (eFrz (eCallC F__law_draw (aCons (eV 0) aNil))) (eC (.int (6)))) (eC (.int (0)))) (sExp (eMt appG (eV 6) (aCons (eTup (aCons (eV 8) (aCons (eBin ixD (eV 9) (eC (.int (0)))) (aCons (eV 11) (aCons (eV 13) (aCons (eV 12) (aCons (eV 14) aNil))))))) aNil))) gNil))))))) (ml.map .str) [.cel 0, .d (.tuple kl), .d (.list (nl.map .str)), s3, s4, .d (.tuple tl), .cel 1, .d (.int calm), b8, b9, b10, b11, b12, b13, b14] (DSc nums k [.lst steps]) =
      .nx [.cel 0, .d (.tuple kl), .d (.list (nl.map .str)), s3, s4, .d (.tuple tl), .cel 1, .d (.int calm), c8, c9, c10, c11, c12, c13, c14] (DSc nums k' [.lst steps']) ∧ (∀ s ∈ steps', stG nl kn tl s) ∧ steps'.length ≤ steps.length + 6 * ml.length ∧ k' ≤ k + 100 * ml.length
  | [], steps, kl, k, b8, b9, b10, b11, b12, b13, b14, _, _, _, h1, _, _ => ⟨k, steps, b8, b9, b10, b11, b12, b13, b14, by simp, h1, by simp, by simp⟩
  | n :: ml, steps, kl, k, b8, b9, b10, b11, b12, b13, b14, hm, hk, h3, h1, h2, h4 => by
    simp only [List.length_cons] at h2 h4
    obtain ⟨k2, st2, c9, c10, c11, c12, c13, c14, e, g1, g2, g3⟩ := steps_mid hn hnl htl (.d (.tuple kl)) s3 s4 (calm := calm) (hm n (by simp)) kl steps k b9 b10 b11 b12 b13 b14 hk h1 (by omega) (by omega)
    obtain ⟨k', st', e8, e9, e10, e11, e12, e13, e14, f, f1, f2, f3⟩ := steps_out ml st2 kl k2 (.d (.str n)) c9 c10 c11 c12 c13 c14 (fun y hy => hm y (by simp [hy])) hk h3 g1 (by omega) (by omega)
    refine ⟨k', st', e8, e9, e10, e11, e12, e13, e14, ?_, f1, by simp only [List.length_cons]; omega, by simp only [List.length_cons]; omega⟩
    rw [List.map_cons, gFor_cons]
    simp only [gtN_, List.set_cons_succ, List.set_cons_zero, sFor_, stp_, iAnyM_, bnd_, eV_, List.getElem?_cons_zero, List.getElem?_cons_succ, ret_, itD_tuple, ofO_some, e, f]
end
def K3 : List D := [.tuple [.str "a", .tuple [.str "peril", .str "fire"]], .tuple [.str "b", .tuple [.str "peril", .str "water"]], .tuple [.str "c", .tuple [.str "always"]]]
def N4 : List Str := ["s0", "s1", "s2", "s3"]
def stateG (ml : List Str) (x : D) : Prop := ∃ n c : Str, x = .tuple [.str n, .str c] ∧ n ∈ ml ∧ (c = "red" ∨ c = "blue")
section
variable {nums : List Int} (hn : InR nums)
include hn
theorem states_lc (s1 s2 : S) : ∀ (ml : List Str) (acc : List D) (k : Nat), acc.length + ml.length ≤ 1000 → k + ml.length < 100000000 →
    ∃ k' sl, lcL (gtN 8) tYesM (eTup (aCons (eV 8) (aCons (eBin ixD (eV 3) (eBin fdivD (eBin modD (eFrz (eCallC F__law_draw (aCons (eV 0) aNil))) (eC (.int (3)))) (eC (.int (2))))) aNil))) [.cel 0, s1, s2, .d (.list [.str "red", .str "blue"]), .no, .no, .no, .no, .no, .no, .no, .no, .no, .no, .no] (ml.map .str) acc (DSc nums k []) = .ok (.own (.lst (acc ++ sl))) (DSc nums k' []) ∧ sl.map fstS = ml ∧ (∀ x ∈ sl, stateG ml x) ∧ k' ≤ k + ml.length
  | [], acc, k, _, _ => ⟨k, [], by simp, rfl, by simp, by simp⟩
  | n :: ml, acc, k, h1, h2 => by
    simp only [List.length_cons] at h1 h2
    have d0 : ∀ c, callC F__law_draw [.cel 0] (DSc nums k c) = .ok (.d (.int (dr nums k))) (DSc nums (k + 1) c) := fun c => drc hn (by omega) _ rfl
    have fd : fdivD (.int (dr nums k % 3)) (.int 2) = some (.int (dr nums k % 3 / 2)) := fdivD_lt (by decide) (by decide)
    obtain ⟨c, hc, hx⟩ : ∃ c : Str, (c = "red" ∨ c = "blue") ∧ atI [PyData.str "red", .str "blue"] (dr nums k % 3 / 2) = some (.str c) := by
      have : dr nums k % 3 / 2 = 0 ∨ dr nums k % 3 / 2 = 1 := by omega
      rcases this with e | e <;> rw [e]
      · exact ⟨"red", .inl rfl, by simp⟩
      · exact ⟨"blue", .inr rfl, by simp⟩
    have l1 : acc.length < sizeLine := size_lt (by omega)
    obtain ⟨k', sl, e, e1, e2, e3⟩ := states_lc s1 s2 ml (acc ++ [.tuple [.str n, .str c]]) (k + 1) (by simp; omega) (by omega)
    refine ⟨k', .tuple [.str n, .str c] :: sl, ?_, by simp [e1, fstS], fun x hx => ?_, by simp only [List.length_cons]; omega⟩
    · rw [List.map_cons, lcL_cons]
      simp at e
      simp [d0, fd, hx, l1, e, -callC_, -fdivD_int]
    · rcases List.mem_cons.1 hx with rfl | hx
      · exact ⟨n, c, rfl, by simp, hc⟩
      · obtain ⟨n', c', q1, q2, q3⟩ := e2 x hx
        exact ⟨n', c', q1, by simp [q2], q3⟩
end
structure GR (md : Str) (kl : List D) (nl : List Str) (sl tl steps : List D) : Prop where
  pmd : md = "told" ∨ md = "date"
  pkl : kl = K3.take 2 ∨ kl = K3
  pnl : ∃ m, 1 ≤ m ∧ m ≤ 4 ∧ nl = N4.take m
  psn : sl.map fstS = nl
  psl : ∀ x ∈ sl, stateG nl x
  ptl : tl = [] ∨ ∃ m : Int, 1 ≤ m ∧ m ≤ 3 ∧ tl = [.tuple [.str "t", .int m]]
  pst : ∀ s ∈ steps, stG nl (kl.map fstS) tl s
  ple : steps.length ≤ 24
def GRule (r : D) : Prop := ∃ md kl nl sl tl steps, GR md kl nl sl tl steps ∧ r = .tuple [.str "rule", .str "r", .str md, .tuple kl, .tuple sl, .tuple tl, .tuple steps]
theorem rule_ {nums : List Int} (hn : InR nums) {k : Nat} (hk : k < 1000000) : ∃ r k', F__law_rule [.cel 0] (DSc nums k []) = .ok (.d r) (DSc nums k' []) ∧ GRule r ∧ k' ≤ k + 1000 := by
  have d0 : ∀ c, callC F__law_draw [.cel 0] (DSc nums k c) = .ok (.d (.int (dr nums k))) (DSc nums (k + 1) c) := fun c => drc hn (by omega) _ rfl
  have d1 : ∀ c, callC F__law_draw [.cel 0] (DSc nums (k + 1) c) = .ok (.d (.int (dr nums (k + 1)))) (DSc nums (k + 2) c) := fun c => drc hn (by omega) _ rfl
  obtain ⟨kl, hkl, e1⟩ : ∃ kl, (kl = K3.take 2 ∨ kl = K3) ∧ slD (.tuple K3) none (some (2 + dr nums k % 2)) = some (.tuple kl) := by
    have : 2 + dr nums k % 2 = ((2 : Nat) : Int) ∨ 2 + dr nums k % 2 = ((3 : Nat) : Int) := by omega
    rcases this with e | e <;> rw [e, slD_tuple, cutD_to]
    · exact ⟨_, .inl rfl, rfl⟩
    · exact ⟨_, .inr rfl, rfl⟩
  obtain ⟨m, m1, m2, hm⟩ : ∃ m : Nat, 1 ≤ m ∧ m ≤ 4 ∧ 1 + dr nums (k + 1) % 4 = (m : Int) := ⟨(1 + dr nums (k + 1) % 4).toNat, by omega, by omega, by omega⟩
  obtain ⟨nl, hnl⟩ : ∃ nl, nl = N4.take m := ⟨_, rfl⟩
  have e2 : slD (.list (N4.map .str)) none (some (1 + dr nums (k + 1) % 4)) = some (.list (nl.map .str)) := by
    rw [hm, slD_list, cutD_to, hnl, List.map_take]
  have nlen : nl.length = m := by rw [hnl, List.length_take]; show min m 4 = m; omega
  obtain ⟨k2, sl, e3, sn, ss, k2l⟩ := states_lc hn (.d (.tuple kl)) (.d (.list (nl.map .str))) nl [] (k + 2) (by simp; omega) (by omega)
  have d2 : ∀ c, callC F__law_draw [.cel 0] (DSc nums k2 c) = .ok (.d (.int (dr nums k2))) (DSc nums (k2 + 1) c) := fun c => drc hn (by omega) _ rfl
  have d3 : ∀ c, callC F__law_draw [.cel 0] (DSc nums (k2 + 1) c) = .ok (.d (.int (dr nums (k2 + 1)))) (DSc nums (k2 + 2) c) := fun c => drc hn (by omega) _ rfl
  have d4 : ∀ c, callC F__law_draw [.cel 0] (DSc nums (k2 + 2) c) = .ok (.d (.int (dr nums (k2 + 2)))) (DSc nums (k2 + 3) c) := fun c => drc hn (by omega) _ rfl
  obtain ⟨tl, htl, e4⟩ : ∃ tl, (tl = [] ∨ ∃ m : Int, 1 ≤ m ∧ m ≤ 3 ∧ tl = [.tuple [.str "t", .int m]]) ∧ slD (.tuple [.tuple [.str "t", .int (1 + dr nums k2 % 3)]]) none (some (dr nums (k2 + 1) % 2)) = some (.tuple tl) := by
    have : dr nums (k2 + 1) % 2 = 0 ∨ dr nums (k2 + 1) % 2 = 1 := by omega
    rcases this with e | e <;> rw [e, slD_tuple]
    · exact ⟨[], .inl rfl, by simp⟩
    · exact ⟨_, .inr ⟨1 + dr nums k2 % 3, by omega, by omega, rfl⟩, by simp⟩
  have tle : tl.length ≤ 1 := by rcases htl with rfl | ⟨_, _, _, rfl⟩ <;> simp
  have kq : ∀ kd ∈ kl, ∃ q, q ∈ kl.map fstS ∧ ixD kd (.int 0) = some (.str q) := by
    rcases hkl with rfl | rfl <;> simp [K3, fstS]
  have k3 : kl.length ≤ 3 := by rcases hkl with rfl | rfl <;> simp [K3]
  obtain ⟨k4, st, c8, c9, c10, c11, c12, c13, c14, e5, s1, s2, s3⟩ := steps_out hn (by omega : 0 < nl.length) tle (.d (.list [.str "red", .str "blue"])) (.d (.tuple sl)) (calm := dr nums (k2 + 2) % 3) (kn := kl.map fstS) nl [] kl (k2 + 3) .no .no .no .no .no .no .no (fun n h => h) kq k3 (by simp) (by simp; omega) (by omega)
  have d5 : ∀ c, callC F__law_draw [.cel 0] (DSc nums k4 c) = .ok (.d (.int (dr nums k4))) (DSc nums (k4 + 1) c) := fun c => drc hn (by omega) _ rfl
  obtain ⟨_, ⟨md, rfl, hmd⟩, e6⟩ := atI_mod (xs := [.str "told", .str "date"]) (P := fun x => ∃ md : Str, x = .str md ∧ (md = "told" ∨ md = "date")) (dr nums k4) 2 rfl (by decide) (by
    intro x hx
    simp at hx
    rcases hx with rfl | rfl
    · exact ⟨_, rfl, .inl rfl⟩
    · exact ⟨_, rfl, .inr rfl⟩)
  refine ⟨_, k4 + 1, ?_, ⟨md, kl, nl, sl, tl, st, ⟨hmd, hkl, ⟨m, m1, m2, hnl⟩, sn, ss, htl, s1, ?_⟩, rfl⟩, by omega⟩
  · simp only [K3, N4, List.map_cons, List.map_nil] at e1 e2
    have e7 := e5
    simp only [List.nil_append] at e3
    generalize hns : nl.map PyData.str = ns at *
    simp [F__law_rule, B__law_rule, d0, d1, d2, d3, d4, d5, e1, e2, e3, e4, e5, e6, -callC_, -slD_list, -slD_tuple]
  · simp at s2
    omega
def SD (n : Nat) (d : D) : Prop := Sane isPN d ∧ d.depth ≤ n
theorem SD.mono {m n : Nat} {d : D} (h : SD m d) (hl : m ≤ n) : SD n d := ⟨h.1, by have := h.2; omega⟩
theorem sd_lit (s : String) (h : (decide ((s : Str).length ≤ 1000) && isPN s) = true) : SD 0 (.str s) := by
  simp only [Bool.and_eq_true, decide_eq_true_eq] at h
  exact ⟨⟨by simp [dAll, txOk, h], by simp [PyData.depth]⟩, by simp [PyData.depth]⟩
theorem sd_int (i : Int) : SD 0 (.int i) := ⟨Sane.int, by simp [PyData.depth]⟩
theorem sd_non : SD 0 .none := ⟨Sane.none, by simp [PyData.depth]⟩
theorem sd_bl (b : Bool) : SD 0 (.bool b) := ⟨Sane.bool, by simp [PyData.depth]⟩
theorem sd_tup {n : Nat} {xs : List D} (h : ∀ x ∈ xs, SD n x) (hn : n + 1 ≤ 60) : SD (n + 1) (.tuple xs) :=
  ⟨(sane_of hn h).1, by simp only [PyData.depth]; have := dep_le fun x hx => (h x hx).2; omega⟩
theorem sd_lst {n : Nat} {xs : List D} (h : ∀ x ∈ xs, SD n x) (hn : n + 1 ≤ 60) : SD (n + 1) (.list xs) :=
  ⟨(sane_of hn h).2, by simp only [PyData.depth]; have := dep_le fun x hx => (h x hx).2; omega⟩
theorem SD.mem {n : Nat} {xs : List D} {x : D} (h : SD (n + 1) (.tuple xs)) (hx : x ∈ xs) : SD n x :=
  ⟨h.1.mem hx, by have := h.2; simp only [PyData.depth] at this; have := dep_mem hx; omega⟩
theorem n4 : ∀ n ∈ N4, SD 0 (.str n) ∧ isName (.str n) = true := by
  intro n hn
  simp [N4] at hn
  rcases hn with rfl | rfl | rfl | rfl <;> exact ⟨sd_lit _ (by decide), by decide⟩
theorem kn3 : ∀ q ∈ K3.map fstS, SD 0 (.str q) ∧ isName (.str q) = true := by
  intro q hq
  simp [K3, fstS] at hq
  rcases hq with rfl | rfl | rfl <;> exact ⟨sd_lit _ (by decide), by decide⟩
theorem sd_t : SD 0 (.str "t") := sd_lit _ (by decide)
section
variable {md : Str} {kl : List D} {nl : List Str} {sl tl steps : List D} (g : GR md kl nl sl tl steps)
include g
theorem GR.nls : ∀ n ∈ nl, n ∈ N4 := by
  obtain ⟨m, _, _, rfl⟩ := g.pnl
  exact fun n hn => List.mem_of_mem_take hn
theorem GR.kls : ∀ q ∈ kl.map fstS, q ∈ K3.map fstS := by
  rcases g.pkl with rfl | rfl
  · intro q hq; simp [K3, fstS] at hq ⊢; rcases hq with rfl | rfl <;> simp
  · exact fun q hq => hq
theorem GR.klsd : SD 3 (.tuple kl) := by
  have a : SD 0 (.str "a") := sd_lit _ (by decide)
  have b : SD 0 (.str "b") := sd_lit _ (by decide)
  have c : SD 0 (.str "c") := sd_lit _ (by decide)
  have p : SD 0 (.str "peril") := sd_lit _ (by decide)
  have f : SD 0 (.str "fire") := sd_lit _ (by decide)
  have w : SD 0 (.str "water") := sd_lit _ (by decide)
  have al : SD 0 (.str "always") := sd_lit _ (by decide)
  have t1 : SD 1 (.tuple [.str "peril", .str "fire"]) := sd_tup (by simp [p, f]) (by omega)
  have t2 : SD 1 (.tuple [.str "peril", .str "water"]) := sd_tup (by simp [p, w]) (by omega)
  have t3 : SD 1 (.tuple [.str "always"]) := sd_tup (by simp [al]) (by omega)
  have u1 : SD 2 (.tuple [.str "a", .tuple [.str "peril", .str "fire"]]) := sd_tup (by simp [a.mono (Nat.zero_le 1), t1]) (by omega)
  have u2 : SD 2 (.tuple [.str "b", .tuple [.str "peril", .str "water"]]) := sd_tup (by simp [b.mono (Nat.zero_le 1), t2]) (by omega)
  have u3 : SD 2 (.tuple [.str "c", .tuple [.str "always"]]) := sd_tup (by simp [c.mono (Nat.zero_le 1), t3]) (by omega)
  rcases g.pkl with rfl | rfl
  · exact sd_tup (by simp [K3, u1, u2]) (by omega)
  · exact sd_tup (by simp [K3, u1, u2, u3]) (by omega)
theorem GR.slsd : ∀ x ∈ sl, SD 1 x := by
  intro x hx
  obtain ⟨n, c, rfl, hn, hc⟩ := g.psl x hx
  have h1 := (n4 n (g.nls n hn)).1
  have h2 : SD 0 (.str c) := by rcases hc with rfl | rfl <;> exact sd_lit _ (by decide)
  exact sd_tup (by simp [h1, h2]) (by omega)
theorem GR.tlsd : ∀ x ∈ tl, SD 1 x := by
  rcases g.ptl with rfl | ⟨m, _, _, rfl⟩
  · simp
  · intro x hx
    simp at hx
    subst hx
    exact sd_tup (by simp [sd_t, sd_int]) (by omega)
theorem GR.stsd : ∀ x ∈ steps, SD 3 x := by
  intro x hx
  obtain ⟨n, q, to, ts, as, post, rfl, hn, hq, hto, hts, has, _, _⟩ := g.pst x hx
  have h1 := (n4 n (g.nls n hn)).1
  have h2 := (kn3 q (g.kls q hq)).1
  have h3 := (n4 to (g.nls to hto)).1
  have h4 : SD 2 (.tuple ts) := by
    rcases hts with rfl | ⟨_, a, c, _, _, _, _, rfl⟩
    · exact (sd_tup (n := 0) (by simp) (by omega)).mono (by omega)
    · have z : SD 1 (.tuple [.str "t", .int a, .int c]) := sd_tup (by simp [sd_t, sd_int]) (by omega)
      exact sd_tup (by simp [z]) (by omega)
  have h5 : SD 2 (.tuple as) := by
    rcases has with rfl | ⟨_, a, _, _, rfl⟩
    · exact (sd_tup (n := 0) (by simp) (by omega)).mono (by omega)
    · have z : SD 1 (.tuple [.str "t", .int a]) := sd_tup (by simp [sd_t, sd_int]) (by omega)
      exact sd_tup (by simp [z]) (by omega)
  exact sd_tup (by simp [h1.mono (Nat.zero_le 2), h2.mono (Nat.zero_le 2), h3.mono (Nat.zero_le 2), h4, h5, (sd_int post).mono (Nat.zero_le 2)]) (by omega)
theorem GR.sd : SD 5 (.tuple [.str "rule", .str "r", .str md, .tuple kl, .tuple sl, .tuple tl, .tuple steps]) := by
  have a : SD 0 (.str "rule") := sd_lit _ (by decide)
  have b : SD 0 (.str "r") := sd_lit _ (by decide)
  have c : SD 0 (.str md) := by rcases g.pmd with rfl | rfl <;> exact sd_lit _ (by decide)
  have d1 := g.klsd.mono (n := 4) (by omega)
  have d2 : SD 4 (.tuple sl) := (sd_tup g.slsd (by omega)).mono (by omega)
  have d3 : SD 4 (.tuple tl) := (sd_tup g.tlsd (by omega)).mono (by omega)
  have d4 : SD 4 (.tuple steps) := sd_tup g.stsd (by omega)
  exact sd_tup (by simp [a.mono (Nat.zero_le 4), b.mono (Nat.zero_le 4), c.mono (Nat.zero_le 4), d1, d2, d3, d4]) (by omega)
theorem GR.ok : ruleP (.tuple [.str "rule", .str "r", .str md, .tuple kl, .tuple sl, .tuple tl, .tuple steps]) = true := by
  rw [ruleP_str rfl rfl]
  have a1 : isName (.str "r") = true := by decide
  have a2 : arePairs (.tuple kl) 1 12 = true := by rcases g.pkl with rfl | rfl <;> decide
  have a3 : arePairs (.tuple tl) 0 3 = true := by
    rcases g.ptl with rfl | ⟨m, _, _, rfl⟩
    · decide
    · have : isName (.str "t") = true := by decide
      simp [arePairs, isPair, this, unl]
  have a4 : kl.all (fun x => condP (sndD x)) = true := by rcases g.pkl with rfl | rfl <;> decide
  have a5 : tl.all (fun x => isNum (sndD x) 1 40) = true := by
    rcases g.ptl with rfl | ⟨m, _, _, rfl⟩
    · rfl
    · simp [sndD, isNum]; omega
  have a6 : sl.all isPair = true := List.all_eq_true.2 fun x hx => by
    obtain ⟨n, c, rfl, hn, hc⟩ := g.psl x hx
    exact (n4 n (g.nls n hn)).2
  have a7 : sl.all (fun x => isName (sndD x)) = true := List.all_eq_true.2 fun x hx => by
    obtain ⟨n, c, rfl, hn, hc⟩ := g.psl x hx
    rcases hc with rfl | rfl
    · exact (show isName (.str "red") = true by decide)
    · exact (show isName (.str "blue") = true by decide)
  have a8 : unl nl = true ∧ 1 ≤ nl.length ∧ nl.length ≤ 4 := by
    obtain ⟨m, m1, m2, rfl⟩ := g.pnl
    have : m = 1 ∨ m = 2 ∨ m = 3 ∨ m = 4 := by omega
    rcases this with rfl | rfl | rfl | rfl <;> decide
  have sn := g.psn
  have sz : sl.length = nl.length := by rw [← sn, List.length_map]
  have a9 : arePairs (.tuple sl) 1 40 = true := by
    simp only [arePairs, a6, sn, a8.1, Bool.and_true, Bool.and_eq_true, decide_eq_true_eq]
    omega
  have le := g.ple
  have a10 : steps.all (stepP (sl.map fstS) (kl.map fstS) (tl.map fstS)) = true := List.all_eq_true.2 fun x hx => by
    obtain ⟨n, q, to, ts, as, post, rfl, hn, hq, hto, hts, has, p1, p2⟩ := g.pst x hx
    rw [sn]
    have i1 : inS (.str n) nl = true := by simpa [inS] using hn
    have i2 : inS (.str q) (kl.map fstS) = true := by
      show decide (q ∈ kl.map fstS) = true
      exact decide_eq_true hq
    have i3 : inS (.str to) nl = true := by simpa [inS] using hto
    have tf : tl ≠ [] → inS (.str "t") (tl.map fstS) = true := fun z => by
      rcases g.ptl with rfl | ⟨m, _, _, rfl⟩
      · exact absurd rfl z
      · simp [inS, fstS]
    have i4 : ts.all (testP (tl.map fstS)) = true := by
      rcases hts with rfl | ⟨z, a, c, _, _, _, _, rfl⟩
      · rfl
      · simp [testP, tf z, isNum]; omega
    have i5 : as.all (addP (tl.map fstS)) = true ∧ unl (as.map fstS) = true := by
      rcases has with rfl | ⟨z, a, _, _, rfl⟩
      · exact ⟨rfl, rfl⟩
      · refine ⟨?_, by simp [unl]⟩
        simp [addP, tf z, isNum]; omega
    have i6 : isNum (.int post) (-1000000000) 1000000000 = true := by simp [isNum]; omega
    simp only [stepP, i1, i2, i3, i4, i5.1, i5.2, i6, Bool.and_self]
  simp only [a1, g.pmd, a2, a3, a4, a5, a7, a9, a10, decide_true, Bool.and_self, decide_eq_true (show steps.length ≤ 200 by omega)]
end
def atP : List Nat → D → Option D
  | [], d => some d
  | i :: r, .tuple xs => (xs[i]?).bind (atP r)
  | _ :: _, _ => none
def putD : List Nat → D → D → D
  | [], _, t => t
  | i :: r, .tuple xs, t => .tuple (xs.take i ++ [putD r (xs.getD i .none) t] ++ xs.drop (i + 1))
  | _ :: _, d, _ => d
mutual
def wid (b : Nat) : D → Bool
  | .list xs => decide (xs.length ≤ b) && wids b xs
  | .tuple xs => decide (xs.length ≤ b) && wids b xs
  | _ => true
def wids (b : Nat) : List D → Bool
  | [] => true
  | x :: xs => wid b x && wids b xs
end
theorem wids_iff {b : Nat} : ∀ {xs : List D}, wids b xs = true ↔ ∀ x ∈ xs, wid b x = true
  | [] => by simp [wids]
  | x :: xs => by simp [wids, wids_iff (xs := xs)]
theorem wid_tup {b : Nat} {xs : List D} : wid b (.tuple xs) = true ↔ xs.length ≤ b ∧ ∀ x ∈ xs, wid b x = true := by simp [wid, wids_iff]
theorem atP_cons {i : Nat} {r : List Nat} {v y : D} (h : atP (i :: r) v = some y) : ∃ xs x, v = .tuple xs ∧ xs[i]? = some x ∧ atP r x = some y := by
  cases v with
  | tuple xs =>
    simp only [atP] at h
    cases e : xs[i]? with
    | none => rw [e] at h; cases h
    | some x => rw [e] at h; exact ⟨xs, x, rfl, e, h⟩
  | _ => simp [atP] at h
theorem putD_cons {i : Nat} {r : List Nat} {xs : List D} {x t : D} (h : xs[i]? = some x) : putD (i :: r) (.tuple xs) t = .tuple (xs.take i ++ [putD r x t] ++ xs.drop (i + 1)) := by
  simp [putD, List.getD_eq_getElem?_getD, h]
theorem put_ {t : D} : ∀ (path : List Nat) (v y : D) (n : Nat), path ≠ [] → atP path v = some y → path.length ≤ n → wid 5000 v = true →
    F__law_put n [.d v, .d (.list ((path.map fun (i : Nat) => (i : Int)).map .int)), .d t] [] = .ok (.d (putD path v t)) []
  | [], _, _, _, h, _, _, _ => absurd rfl h
  | i :: r, v, y, 0, _, _, h, _ => by simp at h
  | i :: r, v, y, n + 1, _, h1, h2, h3 => by
    obtain ⟨xs, x, rfl, hx, ha⟩ := atP_cons h1
    obtain ⟨w1, w2⟩ := wid_tup.1 h3
    have hi := (List.getElem?_eq_some_iff.1 hx).1
    have a1 : atI xs (i : Int) = some x := atI_of rfl hx
    have c1 : cutD xs none (some (i : Int)) = xs.take i := cutD_to xs i
    have c2 : cutD xs (some ((i : Int) + 1)) none = xs.drop (i + 1) := cutD_from xs (i + 1)
    have z1 : (xs.take i).length + 1 ≤ sizeLine := size_ok (by rw [List.length_take]; omega)
    have z2 : (xs.take i).length + 1 + (xs.drop (i + 1)).length ≤ sizeLine := size_ok (by rw [List.length_take, List.length_drop]; omega)
    rw [putD_cons hx]
    generalize xs.take i = tk at *
    generalize xs.drop (i + 1) = dp at *
    cases r with
    | nil => simp [F__law_put, B__law_put, c1, c2, z1, z2, putD]
    | cons j r =>
      have ih := put_ (t := t) (j :: r) x y n (by simp) ha (by simpa using h2) (w2 x (List.mem_of_getElem? hx))
      have l2 : ((r.length : Int) + 1 + 1 == 1) = false := by simp; omega
      simp at ih
      simp [F__law_put, B__law_put, c1, c2, z1, z2, a1, l2, ih]
theorem put_sd {t : D} (ht : SD 4 t) : ∀ (path : List Nat) (v y : D) (m : Nat), atP path v = some y → SD m v → m ≤ 20 → SD (m + 4) (putD path v t)
  | [], v, y, m, _, _, _ => ht.mono (by omega)
  | i :: r, v, y, m, h1, h2, hm => by
    obtain ⟨xs, x, rfl, hx, ha⟩ := atP_cons h1
    cases m with
    | zero => have := h2.2; simp [PyData.depth] at this
    | succ m =>
      rw [putD_cons hx]
      have ih := put_sd ht r x y m ha (h2.mem (List.mem_of_getElem? hx)) (by omega)
      have e : m + 1 + 4 = m + 4 + 1 := by omega
      rw [e]
      refine sd_tup (fun z hz => ?_) (by omega)
      simp only [List.mem_append, List.mem_singleton] at hz
      rcases hz with (hz | hz) | hz
      · exact (h2.mem (List.mem_of_mem_take hz)).mono (by omega)
      · subst hz; exact ih
      · exact (h2.mem (List.mem_of_mem_drop hz)).mono (by omega)
theorem put_wid {b : Nat} {t : D} (ht : wid b t = true) : ∀ (path : List Nat) (v y : D), atP path v = some y → wid b v = true → wid b (putD path v t) = true
  | [], v, y, _, _ => ht
  | i :: r, v, y, h1, h2 => by
    obtain ⟨xs, x, rfl, hx, ha⟩ := atP_cons h1
    obtain ⟨w1, w2⟩ := wid_tup.1 h2
    have hi := (List.getElem?_eq_some_iff.1 hx).1
    rw [putD_cons hx]
    have ih := put_wid ht r x y ha (w2 x (List.mem_of_getElem? hx))
    refine wid_tup.2 ⟨?_, fun z hz => ?_⟩
    · simp only [List.length_append, List.length_take, List.length_drop, List.length_singleton]; omega
    · simp only [List.mem_append, List.mem_singleton] at hz
      rcases hz with (hz | hz) | hz
      · exact w2 z (List.mem_of_mem_take hz)
      · subst hz; exact ih
      · exact w2 z (List.mem_of_mem_drop hz)
theorem atP_snoc {v x : D} {i : Nat} {xs : List D} : ∀ {path : List Nat} {v : D}, atP path v = some (.tuple xs) → xs[i]? = some x → atP (path ++ [i]) v = some x
  | [], v, h, hx => by
    simp [atP] at h
    subst h
    simp [atP, hx]
  | j :: r, v, h, hx => by
    obtain ⟨ys, y, rfl, hy, ha⟩ := atP_cons h
    rw [List.cons_append]
    simp only [atP, hy, Option.bind_some]
    exact atP_snoc (v := y) ha hx
theorem short_of {d : D} (h : wid 3000 d = true) : Short d := by
  rintro a b c ks ss ts steps rfl s hs a' b' c' d' as e rfl
  have h1 := (wid_tup.1 h).2 (.tuple steps) (by simp)
  have h2 := (wid_tup.1 h1).2 _ hs
  have h3 := (wid_tup.1 h2).2 (.tuple as) (by simp)
  have := (wid_tup.1 h3).1
  omega
@[simp] theorem DSc_vwM1 {nums : List Int} {k : Nat} (xs : List D) (r : Store) : vwM (.cel 1) (DSc nums k (.lst xs :: r)) = .ok (.list xs) (DSc nums k (.lst xs :: r)) := by
  rw [vwM_cel]; rfl
def pI (path : List Nat) : List D := (path.map fun (i : Nat) => (i : Int)).map .int
theorem place_loop {nums : List Int} (hn : InR nums) {v : D} (hv : wid 5000 v = true) : ∀ (js : List Int) (path : List Nat) (x : D) (k : Nat) (s3 : S), atP path v = some x → path.length + js.length ≤ 100 → k + 2 * js.length < 100000000 →
    ∃ path' x' k' s3', gFor (gtN 3) (sIf (tAndM (tT (eIsa "tuple" (eV 1))) (tAndM (op2 gtD (eCd lenG (aCons (eV 1) aNil)) (eC (.int (0)))) (tOrM (op2 eqD (eV 3) (eC (.int (0)))) (op2 gtD (eBin modD (eFrz (eCallC F__law_draw (aCons (eV 0) aNil))) (eC (.int (4)))) (eC (.int (0))))))) (gSeq (sExp (eMt appG (eV 2) (aCons (eBin modD (eFrz (eCallC F__law_draw (aCons (eV 0) aNil))) (eCd lenG (aCons (eV 1) aNil))) aNil)))
        (sSet 1 (eBin ixD (eV 1) (eBin ixD (eV 2) (eBin subD (eCd lenG (aCons (eV 2) aNil)) (eC (.int (1)))))))) gNil) (js.map .int) [.cel 0, .d x, .cel 1, s3] (DSc nums k [.lst (pI path)]) = .nx [.cel 0, .d x', .cel 1, s3'] (DSc nums k' [.lst (pI path')]) ∧ atP path' v = some x' ∧ path'.length ≤ path.length + js.length ∧ k' ≤ k + 2 * js.length ∧
      ((path ≠ [] ∨ (∃ js', js = 0 :: js') ∧ ∃ y ys, x = .tuple (y :: ys)) → path' ≠ [])
  | [], path, x, k, s3, h, _, _ => ⟨path, x, k, s3, by simp, h, by simp, by simp, fun z => by
      rcases z with z | ⟨⟨_, z⟩, _⟩
      · exact z
      · cases z⟩
  | j :: js, path, x, k, s3, h, hl, hk => by
    simp only [List.length_cons] at hl hk
    have d0 : ∀ c, callC F__law_draw [.cel 0] (DSc nums k c) = .ok (.d (.int (dr nums k))) (DSc nums (k + 1) c) := fun c => drc hn (by omega) _ rfl
    have d1 : ∀ c, callC F__law_draw [.cel 0] (DSc nums (k + 1) c) = .ok (.d (.int (dr nums (k + 1)))) (DSc nums (k + 2) c) := fun c => drc hn (by omega) _ rfl
    have plen : (pI path).length = path.length := by simp [pI]
    have l1 : (pI path).length < sizeLine := size_lt (by omega)
    have l2 : (pI path).length ≤ sizeLine := size_ok (by omega)
    have skip : ∀ k2, k2 ≤ k + 1 → (path ≠ [] ∨ ¬ (j = 0 ∧ ∃ y ys, x = .tuple (y :: ys))) → (sIf (tAndM (tT (eIsa "tuple" (eV 1))) (tAndM (op2 gtD (eCd lenG (aCons (eV 1) aNil)) (eC (.int (0)))) (tOrM (op2 eqD (eV 3) (eC (.int (0)))) (op2 gtD (eBin modD (eFrz (eCallC F__law_draw (aCons (eV 0) aNil))) (eC (.int (4)))) (eC (.int (0))))))) (gSeq (sExp (eMt appG (eV 2) (aCons (eBin modD (eFrz (eCallC F__law_draw (aCons (eV 0) aNil))) (eCd lenG (aCons (eV 1) aNil))) aNil)))
        (sSet 1 (eBin ixD (eV 1) (eBin ixD (eV 2) (eBin subD (eCd lenG (aCons (eV 2) aNil)) (eC (.int (1)))))))) gNil) [.cel 0, .d x, .cel 1, .d (.int j)] (DSc nums k [.lst (pI path)]) = .nx [.cel 0, .d x, .cel 1, .d (.int j)] (DSc nums k2 [.lst (pI path)]) → ∃ path' x' k' s3', gFor (gtN 3) (sIf (tAndM (tT (eIsa "tuple" (eV 1))) (tAndM (op2 gtD (eCd lenG (aCons (eV 1) aNil)) (eC (.int (0)))) (tOrM (op2 eqD (eV 3) (eC (.int (0)))) (op2 gtD (eBin modD (eFrz (eCallC F__law_draw (aCons (eV 0) aNil))) (eC (.int (4)))) (eC (.int (0))))))) (gSeq (sExp (eMt appG (eV 2) (aCons (eBin modD (eFrz (eCallC F__law_draw (aCons (eV 0) aNil))) (eCd lenG (aCons (eV 1) aNil))) aNil)))
        (sSet 1 (eBin ixD (eV 1) (eBin ixD (eV 2) (eBin subD (eCd lenG (aCons (eV 2) aNil)) (eC (.int (1)))))))) gNil) ((j :: js).map .int) [.cel 0, .d x, .cel 1, s3] (DSc nums k [.lst (pI path)]) = .nx [.cel 0, .d x', .cel 1, s3'] (DSc nums k' [.lst (pI path')]) ∧ atP path' v = some x' ∧ path'.length ≤ path.length + (j :: js).length ∧ k' ≤ k + 2 * (j :: js).length ∧
      ((path ≠ [] ∨ (∃ js', j :: js = 0 :: js') ∧ ∃ y ys, x = .tuple (y :: ys)) → path' ≠ []) := fun k2 hk2 hp e => by
      obtain ⟨path', x', k', s3', f, f1, f2, f3, f4⟩ := place_loop hn hv js path x k2 (.d (.int j)) h (by omega) (by omega)
      refine ⟨path', x', k', s3', ?_, f1, by simp only [List.length_cons]; omega, by simp only [List.length_cons]; omega, fun z => f4 (.inl ?_)⟩
      · rw [List.map_cons, gFor_cons]
        rw [show gtN 3 (PyData.int j) [.cel 0, .d x, .cel 1, s3] = some [.cel 0, .d x, .cel 1, .d (.int j)] from rfl]
        simp only [e, f]
      · rcases hp with hp | hp
        · exact hp
        · rcases z with z | ⟨⟨js', z⟩, w⟩
          · exact z
          · injection z with z1 z2
            exact absurd ⟨z1, w⟩ hp
    cases x with
    | tuple xs =>
      cases xs with
      | nil => exact skip k (by omega) (.inr fun z => by obtain ⟨_, _, _, z⟩ := z; cases z) (by simp)
      | cons y ys =>
        have step : ∀ kd, kd = k ∨ kd = k + 1 → (sIf (tAndM (tT (eIsa "tuple" (eV 1))) (tAndM (op2 gtD (eCd lenG (aCons (eV 1) aNil)) (eC (.int (0)))) (tOrM (op2 eqD (eV 3) (eC (.int (0)))) (op2 gtD (eBin modD (eFrz (eCallC F__law_draw (aCons (eV 0) aNil))) (eC (.int (4)))) (eC (.int (0))))))) (gSeq (sExp (eMt appG (eV 2) (aCons (eBin modD (eFrz (eCallC F__law_draw (aCons (eV 0) aNil))) (eCd lenG (aCons (eV 1) aNil))) aNil)))
        (sSet 1 (eBin ixD (eV 1) (eBin ixD (eV 2) (eBin subD (eCd lenG (aCons (eV 2) aNil)) (eC (.int (1)))))))) gNil) [.cel 0, .d (.tuple (y :: ys)), .cel 1, .d (.int j)] (DSc nums k [.lst (pI path)]) = .nx [.cel 0, .d ((y :: ys).getD (dr nums kd % ((ys.length : Int) + 1)).toNat .none), .cel 1, .d (.int j)] (DSc nums (kd + 1) [.lst (pI path ++ [.int (dr nums kd % ((ys.length : Int) + 1))])]) → ∃ path' x' k' s3', gFor (gtN 3) (sIf (tAndM (tT (eIsa "tuple" (eV 1))) (tAndM (op2 gtD (eCd lenG (aCons (eV 1) aNil)) (eC (.int (0)))) (tOrM (op2 eqD (eV 3) (eC (.int (0)))) (op2 gtD (eBin modD (eFrz (eCallC F__law_draw (aCons (eV 0) aNil))) (eC (.int (4)))) (eC (.int (0))))))) (gSeq (sExp (eMt appG (eV 2) (aCons (eBin modD (eFrz (eCallC F__law_draw (aCons (eV 0) aNil))) (eCd lenG (aCons (eV 1) aNil))) aNil)))
        (sSet 1 (eBin ixD (eV 1) (eBin ixD (eV 2) (eBin subD (eCd lenG (aCons (eV 2) aNil)) (eC (.int (1)))))))) gNil) ((j :: js).map .int) [.cel 0, .d (.tuple (y :: ys)), .cel 1, s3] (DSc nums k [.lst (pI path)]) = .nx [.cel 0, .d x', .cel 1, s3'] (DSc nums k' [.lst (pI path')]) ∧ atP path' v = some x' ∧ path'.length ≤ path.length + (j :: js).length ∧ k' ≤ k + 2 * (j :: js).length ∧
          ((path ≠ [] ∨ (∃ js', j :: js = 0 :: js') ∧ ∃ y' ys', PyData.tuple (y :: ys) = .tuple (y' :: ys')) → path' ≠ []) := fun kd hkd e => by
          have m1 : 0 ≤ dr nums kd % ((ys.length : Int) + 1) := Int.emod_nonneg _ (by omega)
          have m2 : dr nums kd % ((ys.length : Int) + 1) < (ys.length : Int) + 1 := Int.emod_lt_of_pos _ (by omega)
          obtain ⟨i, hi⟩ : ∃ i : Nat, dr nums kd % ((ys.length : Int) + 1) = (i : Int) := ⟨_, (Int.toNat_of_nonneg m1).symm⟩
          rw [hi] at e m2
          have il : i < (y :: ys).length := by simp only [List.length_cons]; omega
          have ei : (y :: ys)[i]? = some ((y :: ys).getD (i : Int).toNat .none) := by
            rw [List.getD_eq_getElem?_getD, Int.toNat_natCast, List.getElem?_eq_getElem il]; rfl
          have at2 := atP_snoc (v := v) (path := path) (x := (y :: ys).getD (i : Int).toNat .none) h ei
          have ep : pI path ++ [.int (i : Int)] = pI (path ++ [i]) := by simp [pI]
          rw [ep] at e
          obtain ⟨path', x', k', s3', f, f1, f2, f3, f4⟩ := place_loop hn hv js (path ++ [i]) _ (kd + 1) (.d (.int j)) at2 (by simp; omega) (by omega)
          refine ⟨path', x', k', s3', ?_, f1, by simp at f2 ⊢; omega, by simp only [List.length_cons]; omega, fun _ => f4 (.inl (by simp))⟩
          rw [List.map_cons, gFor_cons]
          rw [show gtN 3 (PyData.int j) [.cel 0, .d (.tuple (y :: ys)), .cel 1, s3] = some [.cel 0, .d (.tuple (y :: ys)), .cel 1, .d (.int j)] from rfl]
          simp only [e, f]
        have A1 : ∀ kd, atI (y :: ys) (dr nums kd % ((ys.length : Int) + 1)) = some ((y :: ys).getD (dr nums kd % ((ys.length : Int) + 1)).toNat .none) := fun kd => by
          have m1 : 0 ≤ dr nums kd % ((ys.length : Int) + 1) := Int.emod_nonneg _ (by omega)
          have m2 : dr nums kd % ((ys.length : Int) + 1) < (ys.length : Int) + 1 := Int.emod_lt_of_pos _ (by omega)
          have il : (dr nums kd % ((ys.length : Int) + 1)).toNat < (y :: ys).length := by simp only [List.length_cons]; omega
          refine atI_of (n := (dr nums kd % ((ys.length : Int) + 1)).toNat) (by omega) ?_
          rw [List.getD_eq_getElem?_getD, List.getElem?_eq_getElem il]; rfl
        have A2 : ∀ a, atI (pI path ++ [a]) ((pI path).length : Int) = some a := fun a => atI_of rfl (by simp)
        have lp : (0 : Int) < (ys.length : Int) + 1 := by omega
        generalize pI path = pp at *
        by_cases j0 : j = 0
        · subst j0
          exact step k (.inl rfl) (by simp [d0, d1, A1, A2, l1, l2, lp, -callC_, -vwM_cel])
        · by_cases g0 : 0 < dr nums k % 4
          · exact step (k + 1) (.inr rfl) (by simp [d0, d1, A1, A2, l1, l2, lp, j0, g0, -callC_, -vwM_cel])
          · exact skip (k + 1) (by omega) (.inr fun z => j0 z.1) (by simp [d0, d1, A1, A2, l1, l2, lp, j0, g0, -callC_, -vwM_cel])
    | _ => exact skip k (by omega) (.inr fun z => by obtain ⟨_, _, _, z⟩ := z; cases z) (by simp [isaD])
theorem place_ {nums : List Int} (hn : InR nums) {y : D} {ys : List D} (hv : wid 5000 (.tuple (y :: ys)) = true) {k : Nat} (hk : k < 10000000) : ∃ path k', F__law_place [.cel 0, .d (.tuple (y :: ys))] (DSc nums k []) = .ok (.own (.lst (pI path))) (DSc nums k' []) ∧ path ≠ [] ∧ (∃ x, atP path (.tuple (y :: ys)) = some x) ∧ path.length ≤ 6 ∧ k' ≤ k + 12 := by
  obtain ⟨path, x, k', s3, f, f1, f2, f3, f4⟩ := place_loop hn hv ((List.range 6).map fun (i : Nat) => 0 + (i : Int)) [] (.tuple (y :: ys)) k .no rfl (by simp) (by simp; omega)
  rw [← rngD_map] at f
  refine ⟨path, k', ?_, f4 (.inr ⟨⟨_, rfl⟩, y, ys, rfl⟩), ⟨x, f1⟩, by simpa using f2, by simpa using f3⟩
  have e0 : pI [] = [] := rfl
  rw [e0] at f
  have e1 : (DSc nums k' [OC.lst (pI path)])[1]? = some (.lst (pI path)) := rfl
  simp only [F__law_place, runG_, B__law_place, gSeq_, sNew_, stp_, eLst_, bnd_, aNil_, asD_nil, ofO_some, List.length_nil, Nat.zero_le, if_true, ret_, sFor_, iRng_, eC_, sRet_, eRv_, eV_]
  simp [f, fin_cel, e1]
  rfl
section
variable {md : Str} {kl : List D} {nl : List Str} {sl tl steps : List D} (g : GR md kl nl sl tl steps)
include g
theorem GR.wids : wid 100 (.tuple kl) = true ∧ wid 100 (.tuple sl) = true ∧ wid 100 (.tuple tl) = true ∧ wid 100 (.tuple steps) = true := by
  have a : wid 100 (.tuple kl) = true := by rcases g.pkl with rfl | rfl <;> decide
  have sz : sl.length ≤ 4 := by
    obtain ⟨m, m1, m2, e⟩ := g.pnl
    have := congrArg List.length g.psn
    rw [List.length_map, e, List.length_take] at this
    omega
  have b : wid 100 (.tuple sl) = true := wid_tup.2 ⟨by omega, fun x hx => by
    obtain ⟨n, c, rfl, _⟩ := g.psl x hx
    simp [wid, Law.wids]⟩
  have c : wid 100 (.tuple tl) = true := by
    rcases g.ptl with rfl | ⟨m, _, _, rfl⟩ <;> simp [wid, Law.wids]
  have le := g.ple
  have d : wid 100 (.tuple steps) = true := wid_tup.2 ⟨by omega, fun x hx => by
    obtain ⟨n, q, to, ts, as, post, rfl, _, _, _, hts, has, _⟩ := g.pst x hx
    have h1 : wid 100 (.tuple ts) = true := by rcases hts with rfl | ⟨_, _, _, _, _, _, _, rfl⟩ <;> simp [wid, Law.wids]
    have h2 : wid 100 (.tuple as) = true := by rcases has with rfl | ⟨_, _, _, _, rfl⟩ <;> simp [wid, Law.wids]
    refine wid_tup.2 ⟨by simp, ?_⟩
    simp [wid] at h1 h2
    simp [wid, h1, h2]⟩
  exact ⟨a, b, c, d⟩
theorem GR.wid : Law.wid 100 (.tuple [.str "rule", .str "r", .str md, .tuple kl, .tuple sl, .tuple tl, .tuple steps]) = true := by
  obtain ⟨a, b, c, d⟩ := g.wids
  refine wid_tup.2 ⟨by simp, fun x hx => ?_⟩
  simp only [List.mem_cons, List.not_mem_nil, or_false] at hx
  rcases hx with rfl | rfl | rfl | rfl | rfl | rfl | rfl
  · rfl
  · rfl
  · rfl
  · exact a
  · exact b
  · exact c
  · exact d
end
mutual
theorem wid_mono {a b : Nat} (h : a ≤ b) : ∀ d : D, wid a d = true → wid b d = true
  | .list xs, z => by
    simp only [wid, Bool.and_eq_true, decide_eq_true_eq] at z ⊢
    exact ⟨by omega, wids_mono h xs z.2⟩
  | .tuple xs, z => by
    simp only [wid, Bool.and_eq_true, decide_eq_true_eq] at z ⊢
    exact ⟨by omega, wids_mono h xs z.2⟩
  | .none, _ => rfl
  | .bool _, _ => rfl
  | .int _, _ => rfl
  | .str _, _ => rfl
  | .dict _, _ => rfl
theorem wids_mono {a b : Nat} (h : a ≤ b) : ∀ xs : List D, wids a xs = true → wids b xs = true
  | [], _ => rfl
  | x :: xs, z => by
    simp only [wids, Bool.and_eq_true] at z ⊢
    exact ⟨wid_mono h x z.1, wids_mono h xs z.2⟩
end
def Ok5 (d : D) : Prop := Sane isPN d ∧ Short d
theorem Ok5.of {n : Nat} {d : D} (h : SD n d) (hw : wid 3000 d = true) : Ok5 d := ⟨h.1, short_of hw⟩
def odd : List D := [.none, .bool true, .int 41, .int 0, .int (-41), .int 1000000001, .str "s9", .str "A", .str "", .tuple [], .list [], .str "t", .str "toolonger", .tuple [.str "noticed", .int 5], .tuple [.str "peril"], .tuple [.str "day", .int 5, .int 4], .tuple [.str "x", .int 0, .int 0], .tuple [.tuple [.str "t", .int 1], .tuple [.str "t", .int 1]]]
theorem odd_ok : ∀ x ∈ odd, SD 3 x ∧ wid 3000 x = true := by
  have l1 : SD 0 (.str "s9") := sd_lit _ (by decide)
  have l2 : SD 0 (.str "A") := sd_lit _ (by decide)
  have l3 : SD 0 (.str "") := sd_lit _ (by decide)
  have l4 : SD 0 (.str "toolonger") := sd_lit _ (by decide)
  have l5 : SD 0 (.str "noticed") := sd_lit _ (by decide)
  have l6 : SD 0 (.str "peril") := sd_lit _ (by decide)
  have l7 : SD 0 (.str "day") := sd_lit _ (by decide)
  have l8 : SD 0 (.str "x") := sd_lit _ (by decide)
  have t1 : SD 1 (.tuple [.str "t", .int 1]) := sd_tup (by simp [sd_t, sd_int]) (by omega)
  intro x hx
  simp only [odd, List.mem_cons, List.not_mem_nil, or_false] at hx
  rcases hx with rfl | rfl | rfl | rfl | rfl | rfl | rfl | rfl | rfl | rfl | rfl | rfl | rfl | rfl | rfl | rfl | rfl | rfl
  · exact ⟨sd_non.mono (by omega), rfl⟩
  · exact ⟨(sd_bl _).mono (by omega), rfl⟩
  · exact ⟨(sd_int _).mono (by omega), rfl⟩
  · exact ⟨(sd_int _).mono (by omega), rfl⟩
  · exact ⟨(sd_int _).mono (by omega), rfl⟩
  · exact ⟨(sd_int _).mono (by omega), rfl⟩
  · exact ⟨l1.mono (by omega), rfl⟩
  · exact ⟨l2.mono (by omega), rfl⟩
  · exact ⟨l3.mono (by omega), rfl⟩
  · exact ⟨(sd_tup (n := 0) (by simp) (by omega)).mono (by omega), by simp [wid, wids]⟩
  · exact ⟨(sd_lst (n := 0) (by simp) (by omega)).mono (by omega), by simp [wid, wids]⟩
  · exact ⟨sd_t.mono (by omega), rfl⟩
  · exact ⟨l4.mono (by omega), rfl⟩
  · exact ⟨(sd_tup (n := 0) (by simp [l5, sd_int]) (by omega)).mono (by omega), by simp [wid, wids]⟩
  · exact ⟨(sd_tup (n := 0) (by simp [l6]) (by omega)).mono (by omega), by simp [wid, wids]⟩
  · exact ⟨(sd_tup (n := 0) (by simp [l7, sd_int]) (by omega)).mono (by omega), by simp [wid, wids]⟩
  · exact ⟨(sd_tup (n := 0) (by simp [l8, sd_int]) (by omega)).mono (by omega), by simp [wid, wids]⟩
  · exact ⟨(sd_tup (n := 1) (by simp [t1]) (by omega)).mono (by omega), by simp [wid, wids]⟩
/-- put at one place of the rule -/
theorem put_ok {v : D} (hs : SD 5 v) (hw : wid 100 v = true) {path : List Nat} {x t : D} (hp : path ≠ []) (hl : path.length ≤ 12) (ha : atP path v = some x) (ht : SD 4 t) (wt : wid 3000 t = true) :
    ∃ d, F__law_put 12 [.d v, .d (.list (pI path)), .d t] [] = .ok (.d d) [] ∧ Ok5 d :=
  ⟨putD path v t, put_ path v x 12 hp ha hl (wid_mono (by omega) v hw), Ok5.of (put_sd (ht.mono (by omega)) path v x 5 ha hs (by omega)) (put_wid wt path v x ha (wid_mono (by omega) v hw))⟩
@[simp] theorem cutD_t1 (xs : List D) : cutD xs none (some 1) = xs.take 1 := by rw [show (1 : Int) = ((1 : Nat) : Int) from rfl, cutD_to]
@[simp] theorem cutD_t6 (xs : List D) : cutD xs none (some 6) = xs.take 6 := by rw [show (6 : Int) = ((6 : Nat) : Int) from rfl, cutD_to]
def stN (x : D) : D := match x with
  | .int i => .tuple [.str (("s" : Str) ++ (toString i : Str)), .str "red"]
  | _ => .none
theorem w41 : ∀ i : Fin 41, (decide ((("s" : Str) ++ (toString ((i.val : Nat) : Int) : Str)).length ≤ 1000) && isPN (("s" : Str) ++ (toString ((i.val : Nat) : Int) : Str))) = true := by decide +kernel
theorem w41l : ∀ i : Fin 41, decide (("s" : Str).length + ((toString ((i.val : Nat) : Int) : Str)).length ≤ 1000) = true := by decide +kernel
theorem strOk_app (x y : Str) (hx : PyData.strOk x = true) (hy : PyData.strOk y = true) : PyData.strOk (x ++ y) = true := by
  unfold PyData.strOk at *
  show (x.cps ++ y.cps).all _ = true
  rw [Array.all_append, hx, hy]; rfl
theorem stN_ok {i : Nat} (h : i < 41) : SD 1 (stN (.int ((i : Nat) : Int))) ∧ wid 3000 (stN (.int ((i : Nat) : Int))) = true := by
  have h1 := w41 ⟨i, h⟩
  simp only [Bool.and_eq_true, decide_eq_true_eq] at h1
  have h2 : SD 0 (.str (("s" : Str) ++ (toString ((i : Nat) : Int) : Str))) := ⟨⟨by
    simp only [dAll, txOk, Bool.and_eq_true, decide_eq_true_eq]
    exact ⟨⟨h1.1, strOk_app _ _ (strOk_lit _) (strOk_lit _)⟩, h1.2⟩, by simp [PyData.depth]⟩, by simp [PyData.depth]⟩
  have h3 : SD 0 (.str "red") := sd_lit _ (by decide)
  exact ⟨sd_tup (by intro x hx; simp at hx; rcases hx with rfl | rfl; exact h2; exact h3) (by omega), by simp [stN, wid, wids]⟩
theorem stN_lc {cs : Store} {s0 s1 s2 s3 s4 : S} {m : Nat} (hm : m ≤ 41) : lcL (gtN 5) tYesM (eTup (aCons (eBin addD (eC (.str "s")) (eCd strG (aCons (eV 5) aNil))) (aCons (eC (.str "red")) aNil))) [s0, s1, s2, s3, s4, .no] (rngD 0 m) [] cs = .ok (.own (.lst ((rngD 0 m).map stN))) cs := by
  have z := lcL_pure (cs := cs) (tg := gtN 5) (t := tYesM) (f := eTup (aCons (eBin addD (eC (.str "s")) (eCd strG (aCons (eV 5) aNil))) (aCons (eC (.str "red")) aNil))) (ρ := [s0, s1, s2, s3, s4, .no]) (fun y => [s0, s1, s2, s3, s4, .d y]) (fun _ => true) stN (rngD 0 m) [] (fun x hx => by
    refine ⟨rfl, rfl, fun _ => ?_⟩
    unfold rngD at hx
    obtain ⟨i, hi, rfl⟩ := List.mem_map.1 hx
    rw [List.mem_range] at hi
    have e0 : (0 : Int) + (i : Nat) = (i : Int) := by omega
    rw [e0]
    have h1 : ("s" : Str).length + ((toString ((i : Nat) : Int) : Str)).length ≤ 1000 := of_decide_eq_true (w41l ⟨i, by omega⟩)
    have h2 : ("s" : Str).length + ((toString ((i : Nat) : Int) : Str)).length ≤ sizeLine := size_ok (by omega)
    have h2' : ("s" : Str).length + (Str.ofString (Int.repr ((i : Nat) : Int))).length ≤ sizeLine := h2
    have h3 : Nat.log2 i < 1920 := Nat.lt_of_le_of_lt (Nat.log2_le_self i) (by omega)
    simp [stN, h2', h3]) (by simp [rngD_len]; exact size_ok (by omega))
  have ft : (rngD 0 m).filter (fun _ => true) = rngD 0 m := List.filter_eq_self.2 fun _ _ => rfl
  rw [List.nil_append, ft] at z
  exact z
section
variable {nums : List Int} (hn : InR nums) {md : Str} {kl : List D} {nl : List Str} {sl tl steps : List D} (g : GR md kl nl sl tl steps)
include hn g
theorem spoilt_ {k : Nat} (hk : k < 1000000) : ∃ d k', F__law_spoilt [.cel 0, .d (.tuple [.str "rule", .str "r", .str md, .tuple kl, .tuple sl, .tuple tl, .tuple steps])] (DSc nums k []) = .ok (.d d) (DSc nums k' []) ∧ Ok5 d ∧ k' ≤ k + 100 := by
  have d0 : ∀ c, callC F__law_draw [.cel 0] (DSc nums k c) = .ok (.d (.int (dr nums k))) (DSc nums (k + 1) c) := fun c => drc hn (by omega) _ rfl
  have d1 : ∀ c, callC F__law_draw [.cel 0] (DSc nums (k + 1) c) = .ok (.d (.int (dr nums (k + 1)))) (DSc nums (k + 2) c) := fun c => drc hn (by omega) _ rfl
  have gs := g.sd
  have gw := g.wid
  have gi3 : atP [3] (.tuple [.str "rule", .str "r", .str md, .tuple kl, .tuple sl, .tuple tl, .tuple steps]) = some (.tuple kl) := rfl
  have gi4 : atP [4] (.tuple [.str "rule", .str "r", .str md, .tuple kl, .tuple sl, .tuple tl, .tuple steps]) = some (.tuple sl) := rfl
  have gi5 : atP [5] (.tuple [.str "rule", .str "r", .str md, .tuple kl, .tuple sl, .tuple tl, .tuple steps]) = some (.tuple tl) := rfl
  have gi6 : atP [6] (.tuple [.str "rule", .str "r", .str md, .tuple kl, .tuple sl, .tuple tl, .tuple steps]) = some (.tuple steps) := rfl
  by_cases c0 : dr nums k % 9 = 0
  · have ext : ∀ X : List D, SD 4 (.tuple X) → wid 100 (.tuple X) = true → SD 4 (.tuple (X ++ X.take 1)) ∧ wid 3000 (.tuple (X ++ X.take 1)) = true ∧ X.length + min 1 X.length ≤ sizeLine := fun X h1 h2 => by
      obtain ⟨w1, w2⟩ := wid_tup.1 h2
      have m : ∀ x ∈ X ++ X.take 1, x ∈ X := fun x hx => (List.mem_append.1 hx).elim id List.mem_of_mem_take
      have tl1 : (X.take 1).length ≤ 1 := by rw [List.length_take]; omega
      exact ⟨sd_tup (n := 3) (fun x hx => h1.mem (m x hx)) (by omega), wid_tup.2 ⟨by rw [List.length_append]; omega, fun x hx => wid_mono (by omega) x (w2 x (m x hx))⟩, size_ok (by omega)⟩
    have i3 : ixD (.tuple [.str "rule", .str "r", .str md, .tuple kl, .tuple sl, .tuple tl, .tuple steps]) (.int 3) = some (.tuple kl) := by simp
    have i4 : ixD (.tuple [.str "rule", .str "r", .str md, .tuple kl, .tuple sl, .tuple tl, .tuple steps]) (.int 4) = some (.tuple sl) := by simp
    have i5 : ixD (.tuple [.str "rule", .str "r", .str md, .tuple kl, .tuple sl, .tuple tl, .tuple steps]) (.int 5) = some (.tuple tl) := by simp
    obtain ⟨wk, wsl, wtl, _⟩ := g.wids
    have hp : 3 + dr nums (k + 1) % 3 = 3 ∨ 3 + dr nums (k + 1) % 3 = 4 ∨ 3 + dr nums (k + 1) % 3 = 5 := by omega
    obtain ⟨a1, a2, a3⟩ := ext kl (g.klsd.mono (by omega)) wk
    obtain ⟨b1, b2, b3⟩ := ext sl ((sd_tup g.slsd (by omega)).mono (by omega)) wsl
    obtain ⟨t1, t2, t3⟩ := ext tl ((sd_tup g.tlsd (by omega)).mono (by omega)) wtl
    rcases hp with e | e | e
    · obtain ⟨d, e1, e2⟩ := put_ok gs gw (by simp) (by simp) gi3 a1 a2
      refine ⟨d, k + 2, ?_, e2, by omega⟩
      generalize PyData.tuple [.str "rule", .str "r", .str md, .tuple kl, .tuple sl, .tuple tl, .tuple steps] = r at *
      simp only [pI, List.map_cons, List.map_nil] at e1
      simp at e1
      simp [F__law_spoilt, B__law_spoilt, d0, d1, e, i3, a3, e1, c0, -callC_]
    · obtain ⟨d, e1, e2⟩ := put_ok gs gw (by simp) (by simp) gi4 b1 b2
      refine ⟨d, k + 2, ?_, e2, by omega⟩
      generalize PyData.tuple [.str "rule", .str "r", .str md, .tuple kl, .tuple sl, .tuple tl, .tuple steps] = r at *
      simp only [pI, List.map_cons, List.map_nil] at e1
      simp at e1
      simp [F__law_spoilt, B__law_spoilt, d0, d1, e, i4, b3, e1, c0, -callC_]
    · obtain ⟨d, e1, e2⟩ := put_ok gs gw (by simp) (by simp) gi5 t1 t2
      refine ⟨d, k + 2, ?_, e2, by omega⟩
      generalize PyData.tuple [.str "rule", .str "r", .str md, .tuple kl, .tuple sl, .tuple tl, .tuple steps] = r at *
      simp only [pI, List.map_cons, List.map_nil] at e1
      simp at e1
      simp [F__law_spoilt, B__law_spoilt, d0, d1, e, i5, t3, e1, c0, -callC_]
  · by_cases c1 : dr nums k % 9 = 1
    · have hst := g.stsd
      have le := g.ple
      have mem : ∀ x ∈ (List.replicate 201 steps).flatten, x ∈ steps := fun x hx => by
        obtain ⟨l, hl, hx⟩ := List.mem_flatten.1 hx
        rw [(List.mem_replicate.1 hl).2] at hx
        exact hx
      have t1 : SD 4 (.tuple (List.replicate 201 steps).flatten) := sd_tup (fun x hx => hst x (mem x hx)) (by omega)
      have e := put_ (t := .tuple (List.replicate 201 steps).flatten) [6] _ _ 12 (by simp) gi6 (by simp) (wid_mono (by omega : 100 ≤ 5000) _ gw)
      refine ⟨_, k + 1, ?_, ⟨(put_sd t1 [6] _ _ 5 gi6 gs (by omega)).1, ?_⟩, by omega⟩
      · have i6 : ixD (.tuple [.str "rule", .str "r", .str md, .tuple kl, .tuple sl, .tuple tl, .tuple steps]) (.int 6) = some (.tuple steps) := by simp
        generalize PyData.tuple [.str "rule", .str "r", .str md, .tuple kl, .tuple sl, .tuple tl, .tuple steps] = r at *
        have z : steps.length * 201 ≤ 1000000 := by omega
        simp only [List.map_cons, List.map_nil] at e
        simp at e
        simp [F__law_spoilt, B__law_spoilt, d0, i6, z, e, c0, c1, -callC_]
      · intro a b c ks ss ts st' hd s hs a' b' c' d' as e' es
        have hd2 : PyData.tuple [.str "rule", .str "r", .str md, .tuple kl, .tuple sl, .tuple tl, .tuple (List.replicate 201 steps).flatten] = .tuple [a, b, c, ks, ss, ts, .tuple st'] := hd
        have w0 := g.wids.2.2.2
        have hs2 : s ∈ steps := by
          clear hd e t1
          generalize (List.replicate 201 steps).flatten = L at hd2 mem
          simp at hd2
          exact mem s (by rw [hd2.2.2.2.2.2.2]; exact hs)
        have w := (wid_tup.1 g.wids.2.2.2).2 s hs2
        subst es
        have := (wid_tup.1 ((wid_tup.1 w).2 (.tuple as) (by simp))).1
        omega
    · by_cases c2 : dr nums k % 9 = 2
      · have sr : SD 0 (.str "rule") := sd_lit _ (by decide)
        have w3 := wid_mono (by omega : 100 ≤ 3000) _ gw
        obtain ⟨x, hx, ho⟩ := atI_mod (xs := [.list [.str "rule", .str "r", .str md, .tuple kl, .tuple sl, .tuple tl, .tuple steps], .tuple [.str "rule", .str "r", .str md, .tuple kl, .tuple sl, .tuple tl, .tuple steps, .int 0], .tuple [.str "rule", .str "r", .str md, .tuple kl, .tuple sl, .tuple tl], .none, .str "rule"]) (P := Ok5) (dr nums (k + 1)) 5 rfl (by simp) (by
          have m4 : ∀ x ∈ [PyData.str "rule", .str "r", .str md, .tuple kl, .tuple sl, .tuple tl, .tuple steps], SD 4 x ∧ wid 3000 x = true := fun x hx => ⟨gs.mem hx, (wid_tup.1 w3).2 x hx⟩
          intro x hx
          simp only [List.mem_cons, List.not_mem_nil, or_false] at hx
          rcases hx with rfl | rfl | rfl | rfl | rfl
          · refine Ok5.of (n := 5) (sd_lst (fun x hx => (m4 x hx).1) (by omega)) ?_
            simp only [wid, wids, Bool.and_eq_true, decide_eq_true_eq] at w3 ⊢
            exact w3
          · refine Ok5.of (n := 5) (sd_tup (fun x hx => ?_) (by omega)) (wid_tup.2 ⟨by simp, fun x hx => ?_⟩)
            · simp only [List.mem_cons, List.not_mem_nil, or_false] at hx
              rcases hx with h | h | h | h | h | h | h | h
              all_goals first | (subst h; exact (sd_int 0).mono (by omega)) | exact (m4 x (by simp [h])).1
            · simp only [List.mem_cons, List.not_mem_nil, or_false] at hx
              rcases hx with h | h | h | h | h | h | h | h
              all_goals first | (subst h; rfl) | exact (m4 x (by simp [h])).2
          · refine Ok5.of (n := 5) (sd_tup (fun x hx => (m4 x ?_).1) (by omega)) (wid_tup.2 ⟨by simp, fun x hx => (m4 x ?_).2⟩) <;> (simp only [List.mem_cons, List.not_mem_nil, or_false] at hx ⊢; rcases hx with h | h | h | h | h | h <;> simp [h])
          · exact Ok5.of sd_non rfl
          · exact Ok5.of sr rfl)
        refine ⟨x, k + 2, ?_, hx, by omega⟩
        simp [F__law_spoilt, B__law_spoilt, d0, d1, ho, c0, c1, c2, -callC_]
      · by_cases c3 : dr nums k % 9 = 3
        · obtain ⟨m, hm1, hm2⟩ : ∃ m : Nat, m ≤ 41 ∧ 40 + dr nums (k + 1) % 2 = (m : Int) := ⟨(40 + dr nums (k + 1) % 2).toNat, by omega, by omega⟩
          have tok : ∀ x ∈ (rngD 0 m).map stN, SD 1 x ∧ wid 3000 x = true := fun x hx => by
            obtain ⟨y, hy, rfl⟩ := List.mem_map.1 hx
            unfold rngD at hy
            obtain ⟨i, hi, rfl⟩ := List.mem_map.1 hy
            rw [List.mem_range] at hi
            have e0 : (0 : Int) + (i : Nat) = (i : Int) := by omega
            rw [e0]
            exact stN_ok (by omega)
          have t1 : SD 4 (.tuple ((rngD 0 m).map stN)) := (sd_tup (fun x hx => (tok x hx).1) (by omega)).mono (by omega)
          have t2 : wid 3000 (.tuple ((rngD 0 m).map stN)) = true := wid_tup.2 ⟨by rw [List.length_map, rngD_len]; omega, fun x hx => (tok x hx).2⟩
          obtain ⟨d, e1, e2⟩ := put_ok gs gw (by simp) (by simp) gi4 t1 t2
          refine ⟨d, k + 2, ?_, e2, by omega⟩
          have r1 : -(2 ^ 62) ≤ (m : Int) ∧ (m : Int) < 2 ^ 62 := by omega
          generalize PyData.tuple [.str "rule", .str "r", .str md, .tuple kl, .tuple sl, .tuple tl, .tuple steps] = r at *
          simp only [pI, List.map_cons, List.map_nil] at e1
          have lc := fun (s2 s3 : S) (c : Store) => stN_lc (cs := DSc nums (k + 2) c) (s0 := .cel 0) (s1 := .d r) (s2 := s2) (s3 := s3) (s4 := .no) hm1
          generalize (rngD 0 m).map stN = tt at *
          simp at e1 r1
          simp [F__law_spoilt, B__law_spoilt, d0, d1, hm2, r1, lc, e1, c0, c1, c2, c3, -callC_]
        · obtain ⟨path, k', f, f1, ⟨x, f2⟩, f3, f4⟩ := place_ hn (wid_mono (by omega : 100 ≤ 5000) _ gw) (k := k + 1) (by omega)
          have f' := callC_DSo (c := []) rfl f
          have d2 : ∀ c, callC F__law_draw [.cel 0] (DSc nums k' c) = .ok (.d (.int (dr nums k'))) (DSc nums (k' + 1) c) := fun c => drc hn (by omega) _ rfl
          obtain ⟨o, ⟨o1, o2⟩, ho⟩ := atI_mod (xs := odd) (P := fun x => SD 3 x ∧ wid 3000 x = true) (dr nums k') 18 rfl (by decide) odd_ok
          obtain ⟨d, e1, e2⟩ := put_ok gs gw f1 (by omega) f2 (o1.mono (by omega)) o2
          simp only [odd] at ho
          refine ⟨d, k' + 1, ?_, e2, by omega⟩
          generalize PyData.tuple [.str "rule", .str "r", .str md, .tuple kl, .tuple sl, .tuple tl, .tuple steps] = r at *
          simp [F__law_spoilt, B__law_spoilt, d0, d2, f', ho, e1, c0, c1, c2, c3, -callC_]
end
theorem ne_same (x : Str) (hx : PyData.strOk x = true) : neD (.list [.str x]) (.list [.str x]) = some false := by
  have sh : SeqAt.shaped (.list [.str x]) = true := by simp [SeqAt.shaped, PyData.canLay0, PyData.canLayAll0, PyData.depth, PyData.depthAll, hx]
  simp [neD, eqD_sh sh sh, PyData.eqv, PyData.eqvAll]
section
variable {nums : List Int} (hn : InR nums) {md : Str} {kl : List D} {nl : List Str} {sl tl steps : List D} (g : GR md kl nl sl tl steps) (K : PySem.W.Frag)
include hn g
theorem turns (s0 : S) : ∀ (js : List Int) (k : Nat) (s3 s4 : S), k + 100 * js.length < 1000000 → ∃ ρ' cs', gFor (gtN 3) (gSeq (sSet 4 (eFrz (eCallC F__law_spoilt (aCons (eV 1) (aCons (eV 2) aNil)))))
      (sIf (op2 neD (eFrz (eCall (F__law_told K) (aCons (eV 4) aNil))) (eBin ixD (eFrz (eLst (aCons (eFrz (eLst (aCons (eC (.str "refused")) aNil))) (aCons (eFrz (eLst (aCons (eC (.str "taken")) aNil))) aNil)))) (eCd intG (aCons (eFrz (eCall F__law_is_rule (aCons (eV 4) aNil))) aNil)))) (sRet (eRv (eC (.bool false)))) gNil)) (js.map .int) [s0, .cel 0, .d (.tuple [.str "rule", .str "r", .str md, .tuple kl, .tuple sl, .tuple tl, .tuple steps]), s3, s4] (DSc nums k []) = .nx ρ' cs'
  | [], k, s3, s4, _ => ⟨_, _, rfl⟩
  | j :: js, k, s3, s4, hk => by
    simp only [List.length_cons] at hk
    obtain ⟨d, k', f, ⟨f1, f2⟩, f3⟩ := spoilt_ hn g (k := k) (by omega)
    have f' := callC_DS (c := []) rfl f
    obtain ⟨ρ', cs', e⟩ := turns s0 js k' (.d (.int j)) (.d d) (by omega)
    refine ⟨ρ', cs', ?_⟩
    have td := told_ K f1 f2
    have lr := law_rule_ f1
    have q1 := ne_same "taken" (strOk_lit _)
    have q2 := ne_same "refused" (strOk_lit _)
    rw [List.map_cons, gFor_cons]
    generalize PyData.tuple [.str "rule", .str "r", .str md, .tuple kl, .tuple sl, .tuple tl, .tuple steps] = r at *
    cases hr : ruleP d with
    | true =>
      rw [hr] at td lr
      simp at td
      simp [f', td, lr, q1, e, -callC_]
    | false =>
      rw [hr] at td lr
      simp at td
      simp [f', td, lr, q2, e, -callC_]
end
theorem law_true (K : PySem.W.Frag) (ns : List Int) (h : ns.length ≤ 63) : ∃ cs', F_law K [.d (.list (ns.map .int))] [] = .ok (.d (.bool true)) cs' := by
  obtain ⟨nums, e, h1, h2⟩ := numbers_ ns (by omega)
  obtain ⟨r, k', f, ⟨md, kl, nl, sl, tl, steps, g, rfl⟩, f3⟩ := rule_ h1 (k := 0) (by omega)
  have f' := callC_DS (c := []) rfl f
  have cr := check_rule_ K g.sd.1 (short_of (wid_mono (by omega) _ g.wid))
  rw [g.ok] at cr
  obtain ⟨ρ', cs', t⟩ := turns h1 g K (.d (.list (ns.map .int))) ((List.range 8).map fun (k : Nat) => 0 + (k : Int)) k' .no .no (by simp; omega)
  rw [← rngD_map] at t
  generalize PyData.tuple [.str "rule", .str "r", .str md, .tuple kl, .tuple sl, .tuple tl, .tuple steps] = r at *
  rw [show DSc nums 0 [] = [.lst [.list (nums.map .int), .int 0]] from rfl] at f'
  simp at cr
  simp [F_law, B_law, e, f', cr, t, -callC_]
end Law

set_option Elab.async false
set_option linter.all false
set_option maxRecDepth 100000
set_option maxHeartbeats 4000000
namespace Law
open PySem L2 Dn
/-! the text by places -/
def top (i : Nat) : Stmt := PySem.Challenge.pw_whatbefell_k50_rules_are_checked.main.body.getD i (.Pass ⟨0, 0, 0, 0⟩)
abbrev st_is_number : Stmt := top 12
abbrev st_is_name : Stmt := top 13
abbrev st_is_day : Stmt := top 14
abbrev st_is_tuple : Stmt := top 15
abbrev st_are_unlike : Stmt := top 16
abbrev st_are_names : Stmt := top 18
abbrev st_conditions_in : Stmt := top 19
abbrev st_is_condition : Stmt := top 20
abbrev st_are_few : Stmt := top 21
abbrev st_is_timeless : Stmt := top 23
abbrev st_are_pairs : Stmt := top 24
abbrev st_is_step : Stmt := top 25
abbrev st_is_rule : Stmt := top 26
abbrev st_check_rule : Stmt := top 27
abbrev st__law_mixed : Stmt := top 29
abbrev st__law_numbers : Stmt := top 30
abbrev st__law_draw : Stmt := top 31
abbrev st__law_equal : Stmt := top 32
abbrev st__law_all_equal : Stmt := top 33
abbrev st__law_rule : Stmt := top 34
abbrev st__law_is_number : Stmt := top 35
abbrev st__law_is_name : Stmt := top 36
abbrev st__law_is_condition : Stmt := top 37
abbrev st__law_are_pairs : Stmt := top 38
abbrev st__law_is_step : Stmt := top 39
abbrev st__law_is_rule : Stmt := top 40
abbrev st__law_put : Stmt := top 41
abbrev st__law_place : Stmt := top 42
abbrev st__law_spoilt : Stmt := top 43
abbrev st__law_told : Stmt := top 44
abbrev st_law : Stmt := top 45
structure Tx (K : PySem.W.Frag) (mg : PySem.Str → Option Value) : Prop where
  z_bool : mg "bool" = none
  z_int : mg "int" = none
  z_isinstance : mg "isinstance" = none
  z_len : mg "len" = none
  z_list : mg "list" = none
  z_range : mg "range" = none
  z_set : mg "set" = none
  z_str : mg "str" = none
  z_tuple : mg "tuple" = none
  m_LETTERS : ∃ t, mg "LETTERS" = some (.str "abcdefghijklmnopqrstuvwxyz" t)
  m_FIGURES : ∃ t, mg "FIGURES" = some (.str "0123456789" t)
  m_LAST : ∃ t, mg "LAST" = some (.int (36500) t)
  x_WhatbefellError : Exf K mg "WhatbefellError"
  x_BadForm : Exf K mg "BadForm"
  x_BadWords : Exf K mg "BadWords"
  x_BadTreaty : Exf K mg "BadTreaty"
  x_BadRule : Exf K mg "BadRule"
  x_BadArgument : Exf K mg "BadArgument"
  x_TooLarge : Exf K mg "TooLarge"
  e_WhatbefellError : ExcC K (He.ga K "WhatbefellError")
  e_BadForm : ExcC K (He.ga K "BadForm")
  e_BadWords : ExcC K (He.ga K "BadWords")
  e_BadTreaty : ExcC K (He.ga K "BadTreaty")
  e_BadRule : ExcC K (He.ga K "BadRule")
  e_BadArgument : ExcC K (He.ga K "BadArgument")
  e_TooLarge : ExcC K (He.ga K "TooLarge")
  k_WhatbefellError_BadArgument : PySem.W.kitOne K (.ref (He.ga K "WhatbefellError")) (.ref (He.ga K "BadArgument")) = some false
  k_BadForm_BadArgument : PySem.W.kitOne K (.ref (He.ga K "BadForm")) (.ref (He.ga K "BadArgument")) = some false
  k_BadWords_BadArgument : PySem.W.kitOne K (.ref (He.ga K "BadWords")) (.ref (He.ga K "BadArgument")) = some false
  k_BadTreaty_BadArgument : PySem.W.kitOne K (.ref (He.ga K "BadTreaty")) (.ref (He.ga K "BadArgument")) = some false
  k_BadRule_BadArgument : PySem.W.kitOne K (.ref (He.ga K "BadRule")) (.ref (He.ga K "BadArgument")) = some false
  k_BadArgument_BadArgument : PySem.W.kitOne K (.ref (He.ga K "BadArgument")) (.ref (He.ga K "BadArgument")) = some true
  k_TooLarge_BadArgument : PySem.W.kitOne K (.ref (He.ga K "TooLarge")) (.ref (He.ga K "BadArgument")) = some false
  k_WhatbefellError_BadForm : PySem.W.kitOne K (.ref (He.ga K "WhatbefellError")) (.ref (He.ga K "BadForm")) = some false
  k_BadForm_BadForm : PySem.W.kitOne K (.ref (He.ga K "BadForm")) (.ref (He.ga K "BadForm")) = some true
  k_BadWords_BadForm : PySem.W.kitOne K (.ref (He.ga K "BadWords")) (.ref (He.ga K "BadForm")) = some false
  k_BadTreaty_BadForm : PySem.W.kitOne K (.ref (He.ga K "BadTreaty")) (.ref (He.ga K "BadForm")) = some false
  k_BadRule_BadForm : PySem.W.kitOne K (.ref (He.ga K "BadRule")) (.ref (He.ga K "BadForm")) = some false
  k_BadArgument_BadForm : PySem.W.kitOne K (.ref (He.ga K "BadArgument")) (.ref (He.ga K "BadForm")) = some false
  k_TooLarge_BadForm : PySem.W.kitOne K (.ref (He.ga K "TooLarge")) (.ref (He.ga K "BadForm")) = some false
  s_WhatbefellError_BadRule : PySem.W.exmOne K (.ref (He.ga K "WhatbefellError")) (.ref (He.ga K "BadRule")) = some false
  s_BadForm_BadRule : PySem.W.exmOne K (.ref (He.ga K "BadForm")) (.ref (He.ga K "BadRule")) = some false
  s_BadWords_BadRule : PySem.W.exmOne K (.ref (He.ga K "BadWords")) (.ref (He.ga K "BadRule")) = some false
  s_BadTreaty_BadRule : PySem.W.exmOne K (.ref (He.ga K "BadTreaty")) (.ref (He.ga K "BadRule")) = some false
  s_BadRule_BadRule : PySem.W.exmOne K (.ref (He.ga K "BadRule")) (.ref (He.ga K "BadRule")) = some true
  s_BadArgument_BadRule : PySem.W.exmOne K (.ref (He.ga K "BadArgument")) (.ref (He.ga K "BadRule")) = some false
  s_TooLarge_BadRule : PySem.W.exmOne K (.ref (He.ga K "TooLarge")) (.ref (He.ga K "BadRule")) = some false
  k_WhatbefellError_BadTreaty : PySem.W.kitOne K (.ref (He.ga K "WhatbefellError")) (.ref (He.ga K "BadTreaty")) = some false
  k_BadForm_BadTreaty : PySem.W.kitOne K (.ref (He.ga K "BadForm")) (.ref (He.ga K "BadTreaty")) = some false
  k_BadWords_BadTreaty : PySem.W.kitOne K (.ref (He.ga K "BadWords")) (.ref (He.ga K "BadTreaty")) = some false
  k_BadTreaty_BadTreaty : PySem.W.kitOne K (.ref (He.ga K "BadTreaty")) (.ref (He.ga K "BadTreaty")) = some true
  k_BadRule_BadTreaty : PySem.W.kitOne K (.ref (He.ga K "BadRule")) (.ref (He.ga K "BadTreaty")) = some false
  k_BadArgument_BadTreaty : PySem.W.kitOne K (.ref (He.ga K "BadArgument")) (.ref (He.ga K "BadTreaty")) = some false
  k_TooLarge_BadTreaty : PySem.W.kitOne K (.ref (He.ga K "TooLarge")) (.ref (He.ga K "BadTreaty")) = some false
  k_WhatbefellError_BadWords : PySem.W.kitOne K (.ref (He.ga K "WhatbefellError")) (.ref (He.ga K "BadWords")) = some false
  k_BadForm_BadWords : PySem.W.kitOne K (.ref (He.ga K "BadForm")) (.ref (He.ga K "BadWords")) = some false
  k_BadWords_BadWords : PySem.W.kitOne K (.ref (He.ga K "BadWords")) (.ref (He.ga K "BadWords")) = some true
  k_BadTreaty_BadWords : PySem.W.kitOne K (.ref (He.ga K "BadTreaty")) (.ref (He.ga K "BadWords")) = some false
  k_BadRule_BadWords : PySem.W.kitOne K (.ref (He.ga K "BadRule")) (.ref (He.ga K "BadWords")) = some false
  k_BadArgument_BadWords : PySem.W.kitOne K (.ref (He.ga K "BadArgument")) (.ref (He.ga K "BadWords")) = some false
  k_TooLarge_BadWords : PySem.W.kitOne K (.ref (He.ga K "TooLarge")) (.ref (He.ga K "BadWords")) = some false
  k_WhatbefellError_TooLarge : PySem.W.kitOne K (.ref (He.ga K "WhatbefellError")) (.ref (He.ga K "TooLarge")) = some false
  k_BadForm_TooLarge : PySem.W.kitOne K (.ref (He.ga K "BadForm")) (.ref (He.ga K "TooLarge")) = some false
  k_BadWords_TooLarge : PySem.W.kitOne K (.ref (He.ga K "BadWords")) (.ref (He.ga K "TooLarge")) = some false
  k_BadTreaty_TooLarge : PySem.W.kitOne K (.ref (He.ga K "BadTreaty")) (.ref (He.ga K "TooLarge")) = some false
  k_BadRule_TooLarge : PySem.W.kitOne K (.ref (He.ga K "BadRule")) (.ref (He.ga K "TooLarge")) = some false
  k_BadArgument_TooLarge : PySem.W.kitOne K (.ref (He.ga K "BadArgument")) (.ref (He.ga K "TooLarge")) = some false
  k_TooLarge_TooLarge : PySem.W.kitOne K (.ref (He.ga K "TooLarge")) (.ref (He.ga K "TooLarge")) = some true
  k_WhatbefellError_WhatbefellError : PySem.W.kitOne K (.ref (He.ga K "WhatbefellError")) (.ref (He.ga K "WhatbefellError")) = some true
  k_BadForm_WhatbefellError : PySem.W.kitOne K (.ref (He.ga K "BadForm")) (.ref (He.ga K "WhatbefellError")) = some true
  k_BadWords_WhatbefellError : PySem.W.kitOne K (.ref (He.ga K "BadWords")) (.ref (He.ga K "WhatbefellError")) = some true
  k_BadTreaty_WhatbefellError : PySem.W.kitOne K (.ref (He.ga K "BadTreaty")) (.ref (He.ga K "WhatbefellError")) = some true
  k_BadRule_WhatbefellError : PySem.W.kitOne K (.ref (He.ga K "BadRule")) (.ref (He.ga K "WhatbefellError")) = some true
  k_BadArgument_WhatbefellError : PySem.W.kitOne K (.ref (He.ga K "BadArgument")) (.ref (He.ga K "WhatbefellError")) = some true
  k_TooLarge_WhatbefellError : PySem.W.kitOne K (.ref (He.ga K "TooLarge")) (.ref (He.ga K "WhatbefellError")) = some true
  d_is_number : Dfn K mg "is_number" st_is_number ["value", "low", "high"]
  d_is_name : Dfn K mg "is_name" st_is_name ["value"]
  d_is_day : Dfn K mg "is_day" st_is_day ["value"]
  d_is_tuple : Dfn K mg "is_tuple" st_is_tuple ["value", "low", "high"]
  d_are_unlike : Dfn K mg "are_unlike" st_are_unlike ["values"]
  d_are_names : Dfn K mg "are_names" st_are_names ["value"]
  d_conditions_in : Dfn K mg "conditions_in" st_conditions_in ["value"]
  d_is_condition : Dfn K mg "is_condition" st_is_condition ["value"]
  d_are_few : Dfn K mg "are_few" st_are_few ["value", "parts_in"]
  d_is_timeless : Dfn K mg "is_timeless" st_is_timeless ["condition"]
  d_are_pairs : Dfn K mg "are_pairs" st_are_pairs ["value", "low", "high"]
  d_is_step : Dfn K mg "is_step" st_is_step ["step", "states", "kinds", "tallies"]
  d_is_rule : Dfn K mg "is_rule" st_is_rule ["value"]
  d_check_rule : Dfn K mg "check_rule" st_check_rule ["value"]
  d__law_mixed : Dfn K mg "_law_mixed" st__law_mixed ["number", "k"]
  d__law_numbers : Dfn K mg "_law_numbers" st__law_numbers ["script"]
  d__law_draw : Dfn K mg "_law_draw" st__law_draw ["draws"]
  d__law_equal : Dfn K mg "_law_equal" st__law_equal ["actual", "due"]
  d__law_all_equal : Dfn K mg "_law_all_equal" st__law_all_equal ["actual", "due"]
  d__law_rule : Dfn K mg "_law_rule" st__law_rule ["draws"]
  d__law_is_number : Dfn K mg "_law_is_number" st__law_is_number ["value", "low", "high"]
  d__law_is_name : Dfn K mg "_law_is_name" st__law_is_name ["value"]
  d__law_is_condition : Dfn K mg "_law_is_condition" st__law_is_condition ["value"]
  d__law_are_pairs : Dfn K mg "_law_are_pairs" st__law_are_pairs ["value", "least", "most"]
  d__law_is_step : Dfn K mg "_law_is_step" st__law_is_step ["step", "states", "kinds", "tallies"]
  d__law_is_rule : Dfn K mg "_law_is_rule" st__law_is_rule ["rule"]
  d__law_put : Dfn K mg "_law_put" st__law_put ["value", "places", "thing"]
  d__law_place : Dfn K mg "_law_place" st__law_place ["draws", "value"]
  d__law_spoilt : Dfn K mg "_law_spoilt" st__law_spoilt ["draws", "rule"]
  d__law_told : Dfn K mg "_law_told" st__law_told ["value"]
  d_law : Dfn K mg "law" st_law ["script"]
theorem sc_is_number : FnScope ["value", "low", "high"] ["value", "low", "high"] (defScope st_is_number) := ⟨rfl, rfl, rfl, by decide +kernel, rfl, by decide +kernel, by decide +kernel⟩
theorem sc_is_name : FnScope ["value", "sign"] ["value"] (defScope st_is_name) := ⟨rfl, rfl, rfl, by decide +kernel, rfl, by decide +kernel, by decide +kernel⟩
theorem sc_is_day : FnScope ["value"] ["value"] (defScope st_is_day) := ⟨rfl, rfl, rfl, by decide +kernel, rfl, by decide +kernel, by decide +kernel⟩
theorem sc_is_tuple : FnScope ["value", "low", "high"] ["value", "low", "high"] (defScope st_is_tuple) := ⟨rfl, rfl, rfl, by decide +kernel, rfl, by decide +kernel, by decide +kernel⟩
theorem sc_are_unlike : FnScope ["values"] ["values"] (defScope st_are_unlike) := ⟨rfl, rfl, rfl, by decide +kernel, rfl, by decide +kernel, by decide +kernel⟩
theorem sc_are_names : FnScope ["value", "one"] ["value"] (defScope st_are_names) := ⟨rfl, rfl, rfl, by decide +kernel, rfl, by decide +kernel, by decide +kernel⟩
theorem sc_conditions_in : FnScope ["value", "word", "rest", "right"] ["value"] (defScope st_conditions_in) := ⟨rfl, rfl, rfl, by decide +kernel, rfl, by decide +kernel, by decide +kernel⟩
theorem sc_is_condition : FnScope ["value"] ["value"] (defScope st_is_condition) := ⟨rfl, rfl, rfl, by decide +kernel, rfl, by decide +kernel, by decide +kernel⟩
theorem sc_are_few : FnScope ["value", "parts_in", "waiting", "total", "parts"] ["value", "parts_in"] (defScope st_are_few) := ⟨rfl, rfl, rfl, by decide +kernel, rfl, by decide +kernel, by decide +kernel⟩
theorem sc_is_timeless : FnScope ["condition", "part"] ["condition"] (defScope st_is_timeless) := ⟨rfl, rfl, rfl, by decide +kernel, rfl, by decide +kernel, by decide +kernel⟩
theorem sc_are_pairs : FnScope ["value", "low", "high", "one"] ["value", "low", "high"] (defScope st_are_pairs) := ⟨rfl, rfl, rfl, by decide +kernel, rfl, by decide +kernel, by decide +kernel⟩
theorem sc_is_step : FnScope ["step", "states", "kinds", "tallies", "test", "pair"] ["step", "states", "kinds", "tallies"] (defScope st_is_step) := ⟨rfl, rfl, rfl, by decide +kernel, rfl, by decide +kernel, by decide +kernel⟩
theorem sc_is_rule : FnScope ["value", "kinds", "states", "tallies", "one"] ["value"] (defScope st_is_rule) := ⟨rfl, rfl, rfl, by decide +kernel, rfl, by decide +kernel, by decide +kernel⟩
theorem sc_check_rule : FnScope ["value"] ["value"] (defScope st_check_rule) := ⟨rfl, rfl, rfl, by decide +kernel, rfl, by decide +kernel, by decide +kernel⟩
theorem sc__law_mixed : FnScope ["number", "k", "step"] ["number", "k"] (defScope st__law_mixed) := ⟨rfl, rfl, rfl, by decide +kernel, rfl, by decide +kernel, by decide +kernel⟩
theorem sc__law_numbers : FnScope ["script", "numbers", "cell", "rest", "k"] ["script"] (defScope st__law_numbers) := ⟨rfl, rfl, rfl, by decide +kernel, rfl, by decide +kernel, by decide +kernel⟩
theorem sc__law_draw : FnScope ["draws", "at", "first"] ["draws"] (defScope st__law_draw) := ⟨rfl, rfl, rfl, by decide +kernel, rfl, by decide +kernel, by decide +kernel⟩
theorem sc__law_equal : FnScope ["actual", "due"] ["actual", "due"] (defScope st__law_equal) := ⟨rfl, rfl, rfl, by decide +kernel, rfl, by decide +kernel, by decide +kernel⟩
theorem sc__law_all_equal : FnScope ["actual", "due", "k"] ["actual", "due"] (defScope st__law_all_equal) := ⟨rfl, rfl, rfl, by decide +kernel, rfl, by decide +kernel, by decide +kernel⟩
theorem sc__law_rule : FnScope ["draws", "kinds", "names", "classes", "states", "tallies", "steps", "calm", "name", "kind", "k", "tests", "adds", "to", "post"] ["draws"] (defScope st__law_rule) := ⟨rfl, rfl, rfl, by decide +kernel, rfl, by decide +kernel, by decide +kernel⟩
theorem sc__law_is_number : FnScope ["value", "low", "high"] ["value", "low", "high"] (defScope st__law_is_number) := ⟨rfl, rfl, rfl, by decide +kernel, rfl, by decide +kernel, by decide +kernel⟩
theorem sc__law_is_name : FnScope ["value", "sign"] ["value"] (defScope st__law_is_name) := ⟨rfl, rfl, rfl, by decide +kernel, rfl, by decide +kernel, by decide +kernel⟩
theorem sc__law_is_condition : FnScope ["value", "name"] ["value"] (defScope st__law_is_condition) := ⟨rfl, rfl, rfl, by decide +kernel, rfl, by decide +kernel, by decide +kernel⟩
theorem sc__law_are_pairs : FnScope ["value", "least", "most", "names", "pair"] ["value", "least", "most"] (defScope st__law_are_pairs) := ⟨rfl, rfl, rfl, by decide +kernel, rfl, by decide +kernel, by decide +kernel⟩
theorem sc__law_is_step : FnScope ["step", "states", "kinds", "tallies", "name", "names", "test", "many"] ["step", "states", "kinds", "tallies"] (defScope st__law_is_step) := ⟨rfl, rfl, rfl, by decide +kernel, rfl, by decide +kernel, by decide +kernel⟩
theorem sc__law_is_rule : FnScope ["rule", "names", "pair", "k", "step"] ["rule"] (defScope st__law_is_rule) := ⟨rfl, rfl, rfl, by decide +kernel, rfl, by decide +kernel, by decide +kernel⟩
theorem sc__law_put : FnScope ["value", "places", "thing", "at", "inner"] ["value", "places", "thing"] (defScope st__law_put) := ⟨rfl, rfl, rfl, by decide +kernel, rfl, by decide +kernel, by decide +kernel⟩
theorem sc__law_place : FnScope ["draws", "value", "places", "k"] ["draws", "value"] (defScope st__law_place) := ⟨rfl, rfl, rfl, by decide +kernel, rfl, by decide +kernel, by decide +kernel⟩
theorem sc__law_spoilt : FnScope ["draws", "rule", "odd", "pick", "part", "k"] ["draws", "rule"] (defScope st__law_spoilt) := ⟨rfl, rfl, rfl, by decide +kernel, rfl, by decide +kernel, by decide +kernel⟩
theorem sc__law_told : FnScope ["value", "e", "others"] ["value"] (defScope st__law_told) := ⟨rfl, rfl, rfl, by decide +kernel, rfl, by decide +kernel, by decide +kernel⟩
theorem sc_law : FnScope ["script", "draws", "rule", "turn", "value"] ["script"] (defScope st_law) := ⟨rfl, rfl, rfl, by decide +kernel, rfl, by decide +kernel, by decide +kernel⟩
section
variable {P : Program} {w : World} {K : PySem.W.Frag} {mg : PySem.Str → Option Value} {base : Heap}
theorem ex_cls (T : Tx K mg) : ∀ c cls, exKnown c = true → mg c = some cls → cls = .ref (He.ga K c) ∧ ExcC K (He.ga K c) := by
  intro c cls h e
  simp only [exKnown, Bool.or_eq_true, beq_iff_eq] at h
  rcases h with rfl | rfl | rfl | rfl | rfl | rfl | rfl
  · exact ⟨Option.some.inj (e.symm.trans T.x_WhatbefellError.g), T.e_WhatbefellError⟩
  · exact ⟨Option.some.inj (e.symm.trans T.x_BadForm.g), T.e_BadForm⟩
  · exact ⟨Option.some.inj (e.symm.trans T.x_BadWords.g), T.e_BadWords⟩
  · exact ⟨Option.some.inj (e.symm.trans T.x_BadTreaty.g), T.e_BadTreaty⟩
  · exact ⟨Option.some.inj (e.symm.trans T.x_BadRule.g), T.e_BadRule⟩
  · exact ⟨Option.some.inj (e.symm.trans T.x_BadArgument.g), T.e_BadArgument⟩
  · exact ⟨Option.some.inj (e.symm.trans T.x_TooLarge.g), T.e_TooLarge⟩
theorem ex_kit_BadArgument (T : Tx K mg) : ∀ c, exKnown c = true → PySem.W.kitOne K (.ref (He.ga K c)) (.ref (He.ga K "BadArgument")) = some (exSub_BadArgument c) := by
  intro c h
  simp only [exKnown, Bool.or_eq_true, beq_iff_eq] at h
  rcases h with rfl | rfl | rfl | rfl | rfl | rfl | rfl
  · exact T.k_WhatbefellError_BadArgument
  · exact T.k_BadForm_BadArgument
  · exact T.k_BadWords_BadArgument
  · exact T.k_BadTreaty_BadArgument
  · exact T.k_BadRule_BadArgument
  · exact T.k_BadArgument_BadArgument
  · exact T.k_TooLarge_BadArgument
theorem ex_kit_BadForm (T : Tx K mg) : ∀ c, exKnown c = true → PySem.W.kitOne K (.ref (He.ga K c)) (.ref (He.ga K "BadForm")) = some (exSub_BadForm c) := by
  intro c h
  simp only [exKnown, Bool.or_eq_true, beq_iff_eq] at h
  rcases h with rfl | rfl | rfl | rfl | rfl | rfl | rfl
  · exact T.k_WhatbefellError_BadForm
  · exact T.k_BadForm_BadForm
  · exact T.k_BadWords_BadForm
  · exact T.k_BadTreaty_BadForm
  · exact T.k_BadRule_BadForm
  · exact T.k_BadArgument_BadForm
  · exact T.k_TooLarge_BadForm
theorem ex_sub_BadRule (T : Tx K mg) : ∀ c cls, exKnown c = true → mg c = some cls → PySem.W.exmOne K cls (.ref (He.ga K "BadRule")) = some (exSub_BadRule c) := by
  intro c cls h e
  simp only [exKnown, Bool.or_eq_true, beq_iff_eq] at h
  rcases h with rfl | rfl | rfl | rfl | rfl | rfl | rfl
  · cases e.symm.trans T.x_WhatbefellError.g; exact T.s_WhatbefellError_BadRule
  · cases e.symm.trans T.x_BadForm.g; exact T.s_BadForm_BadRule
  · cases e.symm.trans T.x_BadWords.g; exact T.s_BadWords_BadRule
  · cases e.symm.trans T.x_BadTreaty.g; exact T.s_BadTreaty_BadRule
  · cases e.symm.trans T.x_BadRule.g; exact T.s_BadRule_BadRule
  · cases e.symm.trans T.x_BadArgument.g; exact T.s_BadArgument_BadRule
  · cases e.symm.trans T.x_TooLarge.g; exact T.s_TooLarge_BadRule
theorem ex_kit_BadTreaty (T : Tx K mg) : ∀ c, exKnown c = true → PySem.W.kitOne K (.ref (He.ga K c)) (.ref (He.ga K "BadTreaty")) = some (exSub_BadTreaty c) := by
  intro c h
  simp only [exKnown, Bool.or_eq_true, beq_iff_eq] at h
  rcases h with rfl | rfl | rfl | rfl | rfl | rfl | rfl
  · exact T.k_WhatbefellError_BadTreaty
  · exact T.k_BadForm_BadTreaty
  · exact T.k_BadWords_BadTreaty
  · exact T.k_BadTreaty_BadTreaty
  · exact T.k_BadRule_BadTreaty
  · exact T.k_BadArgument_BadTreaty
  · exact T.k_TooLarge_BadTreaty
theorem ex_kit_BadWords (T : Tx K mg) : ∀ c, exKnown c = true → PySem.W.kitOne K (.ref (He.ga K c)) (.ref (He.ga K "BadWords")) = some (exSub_BadWords c) := by
  intro c h
  simp only [exKnown, Bool.or_eq_true, beq_iff_eq] at h
  rcases h with rfl | rfl | rfl | rfl | rfl | rfl | rfl
  · exact T.k_WhatbefellError_BadWords
  · exact T.k_BadForm_BadWords
  · exact T.k_BadWords_BadWords
  · exact T.k_BadTreaty_BadWords
  · exact T.k_BadRule_BadWords
  · exact T.k_BadArgument_BadWords
  · exact T.k_TooLarge_BadWords
theorem ex_kit_TooLarge (T : Tx K mg) : ∀ c, exKnown c = true → PySem.W.kitOne K (.ref (He.ga K c)) (.ref (He.ga K "TooLarge")) = some (exSub_TooLarge c) := by
  intro c h
  simp only [exKnown, Bool.or_eq_true, beq_iff_eq] at h
  rcases h with rfl | rfl | rfl | rfl | rfl | rfl | rfl
  · exact T.k_WhatbefellError_TooLarge
  · exact T.k_BadForm_TooLarge
  · exact T.k_BadWords_TooLarge
  · exact T.k_BadTreaty_TooLarge
  · exact T.k_BadRule_TooLarge
  · exact T.k_BadArgument_TooLarge
  · exact T.k_TooLarge_TooLarge
theorem ex_kit_WhatbefellError (T : Tx K mg) : ∀ c, exKnown c = true → PySem.W.kitOne K (.ref (He.ga K c)) (.ref (He.ga K "WhatbefellError")) = some (exSub_WhatbefellError c) := by
  intro c h
  simp only [exKnown, Bool.or_eq_true, beq_iff_eq] at h
  rcases h with rfl | rfl | rfl | rfl | rfl | rfl | rfl
  · exact T.k_WhatbefellError_WhatbefellError
  · exact T.k_BadForm_WhatbefellError
  · exact T.k_BadWords_WhatbefellError
  · exact T.k_BadTreaty_WhatbefellError
  · exact T.k_BadRule_WhatbefellError
  · exact T.k_BadArgument_WhatbefellError
  · exact T.k_TooLarge_WhatbefellError
theorem ok_is_number (T : Tx K mg) : Okf P w K mg base 1 "is_number" ["value", "low", "high"] F_is_number :=
  T.d_is_number.ok sc_is_number 0 rfl fun cdv A outer s H E hr tk po =>
    (dss_one (dst_ret ((de_and (de_isa (de_name 0) T.z_isinstance T.z_int (.inl rfl) bt_int) (de_and (de_not (de_isa (de_name 0) T.z_isinstance T.z_bool (.inr (.inl rfl)) bt_bool)) (de_one (de_chn le_ok le_ok (de_name 1) (de_name 0) (de_name 2)))))).rv))
theorem ok_is_name (T : Tx K mg) : Okf P w K mg base 1 "is_name" ["value"] F_is_name :=
  T.d_is_name.ok sc_is_name 1 rfl fun cdv A outer s H E hr tk po =>
    (dss_cons (dst_if (dw_or (dt_not (dt_tru (de_isa (de_name 0) T.z_isinstance T.z_str (.inr (.inr (.inl rfl))) bt_str))) (dw_or (dt_not (dt_chn le_ok le_ok de_int (de_callB len_ok T.z_len bt_len (da_cons (de_name 0) da_nil)) de_int)) (dw_or1 (dt_cmp (nin_ok (hu65 hr)) (de_ix (de_name 0) de_int) (de_gS T.m_LETTERS))))).dt (dss_one (dst_ret (de_bl).rv)) dss_nil)
    (dss_one (dst_ret ((de_cmp (eq_ok hr.units) ((do_lc [("sign", 1)] sc_is_name.nd (di_any (de_name 0)) (fun _ _ _ _ _ => (dgb_name 1 sc_is_name.nd)) (fun _ _ _ _ _ => (dts_one (dw_and (dt_cmp (nin_ok (hu65 hr)) (de_name 1) (de_gS T.m_LETTERS)) (dw_and1 (dt_cmp (nin_ok (hu65 hr)) (de_name 1) (de_gS T.m_FIGURES)))).dt)) (fun _ _ _ _ _ => (de_name 1)))).frz ((do_lst da_nil)).frz)).rv)))
theorem ok_is_day (T : Tx K mg) : Okf P w K mg base 2 "is_day" ["value"] F_is_day :=
  T.d_is_day.ok sc_is_day 0 rfl fun cdv A outer s H E hr tk po =>
    (dss_one (dst_ret (do_f (ok_is_number T) (hr.mono (by decide)) tk (da_cons (de_name 0) (da_cons de_int (da_cons (de_gI T.m_LAST) da_nil))) (alenS (alenS (alenS alen0))))))
theorem ok_is_tuple (T : Tx K mg) : Okf P w K mg base 1 "is_tuple" ["value", "low", "high"] F_is_tuple :=
  T.d_is_tuple.ok sc_is_tuple 0 rfl fun cdv A outer s H E hr tk po =>
    (dss_one (dst_ret ((de_and (de_isa (de_name 0) T.z_isinstance T.z_tuple (.inr (.inr (.inr (.inr (.inl rfl))))) bt_tuple) (de_one (de_chn le_ok le_ok (de_name 1) (de_callB len_ok T.z_len bt_len (da_cons (de_name 0) da_nil)) (de_name 2))))).rv))
theorem ok_are_unlike (T : Tx K mg) : Okf P w K mg base 1 "are_unlike" ["values"] F_are_unlike :=
  T.d_are_unlike.ok sc_are_unlike 0 rfl fun cdv A outer s H E hr tk po =>
    (dss_one (dst_ret ((de_cmp (eq_ok hr.units) (de_lenSet T.z_len T.z_set (de_name 0)) (de_callB len_ok T.z_len bt_len (da_cons (de_name 0) da_nil)))).rv))
theorem ok_are_names (T : Tx K mg) : Okf P w K mg base 2 "are_names" ["value"] F_are_names :=
  T.d_are_names.ok sc_are_names 1 rfl fun cdv A outer s H E hr tk po =>
    (dss_one (dst_ret ((de_and ((do_f (ok_is_tuple T) (hr.mono (by decide)) tk (da_cons (de_name 0) (da_cons de_int (da_cons de_int da_nil))) (alenS (alenS (alenS alen0))))).frz (de_one (de_cmp (eq_ok hr.units) ((do_lc [("one", 1)] sc_are_names.nd (di_any (de_name 0)) (fun _ _ _ _ _ => (dgb_name 1 sc_are_names.nd)) (fun _ _ _ _ _ => (dts_one (dt_not (dt_tru ((do_f (ok_is_name T) (hr.mono (by decide)) takesWf (da_cons (de_name 1) da_nil) (alenS alen0))).frz)))) (fun _ _ _ _ _ => (de_name 1)))).frz ((do_lst da_nil)).frz)))).rv))
theorem ok_conditions_in (T : Tx K mg) : Okf P w K mg base 3 "conditions_in" ["value"] F_conditions_in :=
  T.d_conditions_in.ok sc_conditions_in 3 rfl fun cdv A outer s H E hr tk po =>
    (dss_cons (dst_if (dw_or (dt_not (dt_tru (de_isa (de_name 0) T.z_isinstance T.z_tuple (.inr (.inr (.inr (.inr (.inl rfl))))) bt_tuple))) (dw_or (dt_cmp lt_ok (de_callB len_ok T.z_len bt_len (da_cons (de_name 0) da_nil)) de_int) (dw_or1 (dt_not (dt_tru (de_isa (de_ix (de_name 0) de_int) T.z_isinstance T.z_str (.inr (.inr (.inl rfl))) bt_str)))))).dt (dss_one (dst_ret (de_non).rv)) dss_nil)
    (dss_cons (dst_set 1 sc_conditions_in.nd (de_ix (de_name 0) de_int))
    (dss_cons (dst_set 2 sc_conditions_in.nd (de_sl (de_name 0) (dpo_some de_int) dpo_none))
    (dss_cons (dst_if (dt_cmp (eq_ok hr.units) (de_name 1) de_str) (dss_one (dst_set 3 sc_conditions_in.nd (de_cmp (eq_ok hr.units) (de_callB len_ok T.z_len bt_len (da_cons (de_name 2) da_nil)) de_int))) (dss_one (dst_if (dt_cmp (in_ok (hu65 hr)) (de_name 1) (de_tup (da_cons de_str (da_cons de_str (da_cons de_str da_nil))))) (dss_one (dst_set 3 sc_conditions_in.nd ((do_f (ok_are_names T) (hr.mono (by decide)) tk (da_cons (de_name 2) da_nil) (alenS alen0))).frz)) (dss_one (dst_if (dt_cmp (eq_ok hr.units) (de_name 1) de_str) (dss_one (dst_set 3 sc_conditions_in.nd (de_and (de_cmp (eq_ok hr.units) (de_callB len_ok T.z_len bt_len (da_cons (de_name 2) da_nil)) de_int) (de_and ((do_f (ok_is_day T) (hr.mono (by decide)) tk (da_cons (de_ix (de_name 2) de_int) da_nil) (alenS alen0))).frz (de_and ((do_f (ok_is_day T) (hr.mono (by decide)) tk (da_cons (de_ix (de_name 2) de_int) da_nil) (alenS alen0))).frz (de_one (de_cmp le_ok (de_ix (de_name 2) de_int) (de_ix (de_name 2) de_int)))))))) (dss_one (dst_if (dt_cmp (eq_ok hr.units) (de_name 1) de_str) (dss_one (dst_set 3 sc_conditions_in.nd (de_and (de_cmp (eq_ok hr.units) (de_callB len_ok T.z_len bt_len (da_cons (de_name 2) da_nil)) de_int) (de_one ((do_f (ok_is_number T) (hr.mono (by decide)) tk (da_cons (de_ix (de_name 2) de_int) (da_cons de_int (da_cons de_int da_nil))) (alenS (alenS (alenS alen0))))).frz)))) (dss_one (dst_if (dt_cmp (eq_ok hr.units) (de_name 1) de_str) (dss_one (dst_set 3 sc_conditions_in.nd (de_and (de_cmp (eq_ok hr.units) (de_callB len_ok T.z_len bt_len (da_cons (de_name 2) da_nil)) de_int) (de_one ((do_f (ok_is_name T) (hr.mono (by decide)) tk (da_cons (de_ix (de_name 2) de_int) da_nil) (alenS alen0))).frz)))) (dss_one (dst_if (dw_or (dw_and (dt_cmp (eq_ok hr.units) (de_name 1) de_str) (dw_and1 (dt_cmp (eq_ok hr.units) (de_callB len_ok T.z_len bt_len (da_cons (de_name 2) da_nil)) de_int))).dt (dw_or1 (dw_and (dt_cmp (in_ok (hu65 hr)) (de_name 1) (de_tup (da_cons de_str (da_cons de_str da_nil)))) (dw_and1 (dt_chn le_ok le_ok de_int (de_callB len_ok T.z_len bt_len (da_cons (de_name 2) da_nil)) de_int))).dt)).dt (dss_one (dst_ret ((de_callT list_ok T.z_list bt_list (da_cons (de_name 2) da_nil))).rv)) (dss_one (dst_set 3 sc_conditions_in.nd de_bl)))))))))))))
    (dss_one (dst_ret ((de_if (dt_tru (de_name 3)) ((do_lst da_nil)).frz de_non)).rv))))))
theorem ok_are_few__conditions_in (T : Tx K mg) : Okf P w K mg base 4 "are_few" ["value", "parts_in"] (F_are_few__conditions_in K) :=
  T.d_are_few.ok sc_are_few 3 rfl fun cdv A outer s H E hr tk po =>
    (dss_cons (dst_new 2 sc_are_few.nd (do_lst (da_cons (de_name 0) da_nil)))
    (dss_cons (dst_set 3 sc_are_few.nd de_int)
    (dss_cons (dst_while (fun _ _ => 100) po (dw_and (dt_tru (de_name 2)) (dw_and1 (dt_cmp le_ok (de_name 3) de_int))).dt (dss_cons (dst_set 4 sc_are_few.nd ((do_fL 1 (y := "conditions_in") (ok_conditions_in T) (hr.mono (by decide)) (da_cons (de_mt0 PySem.F.slot_list_pop PySem.F.type_list_pop pop_ok (de_name 2)) da_nil) (alenS alen0))).frz)
      (dss_cons (dst_if (dt_isn (de_name 4)) (dss_one (dst_ret (de_bl).rv)) dss_nil)
      (dss_cons (dst_set 3 sc_are_few.nd (de_op add_ok (de_name 3) de_int))
      (dss_one (dst_exp (de_mt PySem.F.slot_list_extend PySem.F.type_list_extend ext_ok (de_name 2) (da_cons (de_name 4) da_nil))))))))
    (dss_one (dst_ret ((de_cmp le_ok (de_name 3) de_int)).rv)))))
theorem ok_is_condition (T : Tx K mg) : Okf P w K mg base 5 "is_condition" ["value"] (F_is_condition K) :=
  T.d_is_condition.ok sc_is_condition 0 rfl fun cdv A outer s H E hr tk po =>
    (dss_one (dst_ret (do_f (ok_are_few__conditions_in T) (hr.mono (by decide)) tk (da_cons (de_name 0) (da_cons (de_globF T.d_conditions_in.g) da_nil)) (alenS (alenS alen0)))))
theorem st_ok_is_timeless {k : Nat} (hk : 0 ≤ k) {f_is_timeless : List S → M Rv} (T : Tx K mg) (h_is_timeless : Okf P w K mg base k "is_timeless" ["condition"] f_is_timeless) : Okf P w K mg base (k + 1) "is_timeless" ["condition"] (runG 1 (B_is_timeless f_is_timeless)) :=
  T.d_is_timeless.ok sc_is_timeless 1 rfl fun cdv A outer s H E hr tk po =>
    (dss_cons (dst_if (dt_cmp (eq_ok hr.units) (de_ix (de_name 0) de_int) de_str) (dss_one (dst_ret (de_bl).rv)) dss_nil)
    (dss_cons (dst_if (dt_cmp (in_ok (hu65 hr)) (de_ix (de_name 0) de_int) (de_tup (da_cons de_str (da_cons de_str (da_cons de_str da_nil))))) (dss_one (dst_ret ((de_cmp (eq_ok hr.units) ((do_lc [("part", 1)] sc_is_timeless.nd (di_any (de_sl (de_name 0) (dpo_some de_int) dpo_none)) (fun _ _ _ _ _ => (dgb_name 1 sc_is_timeless.nd)) (fun _ _ _ _ _ => (dts_one (dt_not (dt_tru ((do_f h_is_timeless hr takesWf (da_cons (de_name 1) da_nil) (alenS alen0))).frz)))) (fun _ _ _ _ _ => (de_name 1)))).frz ((do_lst da_nil)).frz)).rv)) dss_nil)
    (dss_one (dst_ret (de_bl).rv))))
theorem ok_is_timeless (T : Tx K mg) : ∀ n, Okf P w K mg base (0 + n) "is_timeless" ["condition"] (F_is_timeless n)
  | 0 => T.d_is_timeless.ok0
  | n + 1 => st_ok_is_timeless (Nat.le_add_right _ _) T (ok_is_timeless T n)
theorem ok_are_pairs (T : Tx K mg) : Okf P w K mg base 2 "are_pairs" ["value", "low", "high"] F_are_pairs :=
  T.d_are_pairs.ok sc_are_pairs 1 rfl fun cdv A outer s H E hr tk po =>
    (dss_cons (dst_if (dw_or (dt_not (dt_tru ((do_f (ok_is_tuple T) (hr.mono (by decide)) tk (da_cons (de_name 0) (da_cons (de_name 1) (da_cons (de_name 2) da_nil))) (alenS (alenS (alenS alen0))))).frz)) (dw_or1 (dt_tru ((do_lc [("one", 3)] sc_are_pairs.nd (di_any (de_name 0)) (fun _ _ _ _ _ => (dgb_name 3 sc_are_pairs.nd)) (fun _ _ _ _ _ => (dts_one (dw_or (dt_not (dt_tru ((do_f (ok_is_tuple T) (hr.mono (by decide)) takesWf (da_cons (de_name 3) (da_cons de_int (da_cons de_int da_nil))) (alenS (alenS (alenS alen0))))).frz)) (dw_or1 (dt_not (dt_tru ((do_f (ok_is_name T) (hr.mono (by decide)) takesWf (da_cons (de_ix (de_name 3) de_int) da_nil) (alenS alen0))).frz)))).dt)) (fun _ _ _ _ _ => (de_name 3)))).frz))).dt (dss_one (dst_ret (de_bl).rv)) dss_nil)
    (dss_one (dst_ret (do_f (ok_are_unlike T) (hr.mono (by decide)) tk (da_cons ((do_lc [("one", 3)] sc_are_pairs.nd (di_any (de_name 0)) (fun _ _ _ _ _ => (dgb_name 3 sc_are_pairs.nd)) (fun _ _ _ _ _ => dts_nil) (fun _ _ _ _ _ => (de_ix (de_name 3) de_int)))).frz da_nil) (alenS alen0)))))
theorem ok_is_step (T : Tx K mg) : Okf P w K mg base 2 "is_step" ["step", "states", "kinds", "tallies"] F_is_step :=
  T.d_is_step.ok sc_is_step 2 rfl fun cdv A outer s H E hr tk po =>
    (dss_cons (dst_if (dw_or (dt_not (dt_tru ((do_f (ok_is_tuple T) (hr.mono (by decide)) tk (da_cons (de_name 0) (da_cons de_int (da_cons de_int da_nil))) (alenS (alenS (alenS alen0))))).frz)) (dw_or (dt_cmp (nin_ok (hu65 hr)) (de_ix (de_name 0) de_int) (de_name 1)) (dw_or (dt_cmp (nin_ok (hu65 hr)) (de_ix (de_name 0) de_int) (de_name 2)) (dw_or1 (dt_cmp (nin_ok (hu65 hr)) (de_ix (de_name 0) de_int) (de_name 1)))))).dt (dss_one (dst_ret (de_bl).rv)) dss_nil)
    (dss_cons (dst_if (dw_or (dt_not (dt_tru (de_isa (de_ix (de_name 0) de_int) T.z_isinstance T.z_tuple (.inr (.inr (.inr (.inr (.inl rfl))))) bt_tuple))) (dw_or1 (dt_not (dt_tru (de_isa (de_ix (de_name 0) de_int) T.z_isinstance T.z_tuple (.inr (.inr (.inr (.inr (.inl rfl))))) bt_tuple))))).dt (dss_one (dst_ret (de_bl).rv)) dss_nil)
    (dss_cons (dst_for po (di_any (de_ix (de_name 0) de_int)) (dg_name 4 sc_is_step.nd) (dss_cons (dst_if (dw_or (dt_not (dt_tru ((do_f (ok_is_tuple T) (hr.mono (by decide)) tk (da_cons (de_name 4) (da_cons de_int (da_cons de_int da_nil))) (alenS (alenS (alenS alen0))))).frz)) (dw_or1 (dt_cmp (nin_ok (hu65 hr)) (de_ix (de_name 4) de_int) (de_name 3)))).dt (dss_one (dst_ret (de_bl).rv)) dss_nil)
      (dss_one (dst_if (dw_or (dt_not (dt_tru ((do_f (ok_is_number T) (hr.mono (by decide)) tk (da_cons (de_ix (de_name 4) de_int) (da_cons de_int (da_cons de_int da_nil))) (alenS (alenS (alenS alen0))))).frz)) (dw_or1 (dt_not (dt_tru ((do_f (ok_is_number T) (hr.mono (by decide)) tk (da_cons (de_ix (de_name 4) de_int) (da_cons de_int (da_cons de_int da_nil))) (alenS (alenS (alenS alen0))))).frz)))).dt (dss_one (dst_ret (de_bl).rv)) dss_nil))))
    (dss_cons (dst_for po (di_any (de_ix (de_name 0) de_int)) (dg_name 5 sc_is_step.nd) (dss_one (dst_if (dw_or (dt_not (dt_tru ((do_f (ok_is_tuple T) (hr.mono (by decide)) tk (da_cons (de_name 5) (da_cons de_int (da_cons de_int da_nil))) (alenS (alenS (alenS alen0))))).frz)) (dw_or (dt_cmp (nin_ok (hu65 hr)) (de_ix (de_name 5) de_int) (de_name 3)) (dw_or1 (dt_not (dt_tru ((do_f (ok_is_number T) (hr.mono (by decide)) tk (da_cons (de_ix (de_name 5) de_int) (da_cons (de_neg de_int) (da_cons de_int da_nil))) (alenS (alenS (alenS alen0))))).frz))))).dt (dss_one (dst_ret (de_bl).rv)) dss_nil)))
    (dss_one (dst_ret ((de_and ((do_f (ok_are_unlike T) (hr.mono (by decide)) tk (da_cons ((do_lc [("pair", 5)] sc_is_step.nd (di_any (de_ix (de_name 0) de_int)) (fun _ _ _ _ _ => (dgb_name 5 sc_is_step.nd)) (fun _ _ _ _ _ => dts_nil) (fun _ _ _ _ _ => (de_ix (de_name 5) de_int)))).frz da_nil) (alenS alen0))).frz (de_one ((do_f (ok_is_number T) (hr.mono (by decide)) tk (da_cons (de_ix (de_name 0) de_int) (da_cons (de_neg de_int) (da_cons de_int da_nil))) (alenS (alenS (alenS alen0))))).frz))).rv))))))
theorem ok_is_rule (T : Tx K mg) : Okf P w K mg base 13 "is_rule" ["value"] (F_is_rule K) :=
  T.d_is_rule.ok sc_is_rule 4 rfl fun cdv A outer s H E hr tk po =>
    (dss_cons (dst_if (dw_or (dt_not (dt_tru ((do_f (ok_is_tuple T) (hr.mono (by decide)) tk (da_cons (de_name 0) (da_cons de_int (da_cons de_int da_nil))) (alenS (alenS (alenS alen0))))).frz)) (dw_or (dt_not (dt_tru (de_isa (de_ix (de_name 0) de_int) T.z_isinstance T.z_str (.inr (.inr (.inl rfl))) bt_str))) (dw_or (dt_cmp (ne_ok hr.units) (de_ix (de_name 0) de_int) de_str) (dw_or1 (dt_not (dt_tru ((do_f (ok_is_name T) (hr.mono (by decide)) tk (da_cons (de_ix (de_name 0) de_int) da_nil) (alenS alen0))).frz)))))).dt (dss_one (dst_ret (de_bl).rv)) dss_nil)
    (dss_cons (dst_if (dw_or (dt_not (dt_tru (de_isa (de_ix (de_name 0) de_int) T.z_isinstance T.z_str (.inr (.inr (.inl rfl))) bt_str))) (dw_or (dt_cmp (nin_ok (hu65 hr)) (de_ix (de_name 0) de_int) (de_tup (da_cons de_str (da_cons de_str da_nil)))) (dw_or1 (dt_not (dt_tru ((do_f (ok_are_pairs T) (hr.mono (by decide)) tk (da_cons (de_ix (de_name 0) de_int) (da_cons de_int (da_cons de_int da_nil))) (alenS (alenS (alenS alen0))))).frz))))).dt (dss_one (dst_ret (de_bl).rv)) dss_nil)
    (dss_cons (dst_if (dt_tru ((do_lc [("one", 4)] sc_is_rule.nd (di_any (de_ix (de_name 0) de_int)) (fun _ _ _ _ _ => (dgb_name 4 sc_is_rule.nd)) (fun _ _ _ _ _ => (dts_one (dw_or (dt_not (dt_tru ((do_f (ok_is_condition T) (hr.mono (by decide)) takesWf (da_cons (de_ix (de_name 4) de_int) da_nil) (alenS alen0))).frz)) (dw_or1 (dt_not (dt_tru ((do_f (ok_is_timeless T 12) (hr.mono (by decide)) takesWf (da_cons (de_ix (de_name 4) de_int) da_nil) (alenS alen0))).frz)))).dt)) (fun _ _ _ _ _ => (de_name 4)))).frz) (dss_one (dst_ret (de_bl).rv)) dss_nil)
    (dss_cons (dst_if (dw_or (dt_not (dt_tru ((do_f (ok_are_pairs T) (hr.mono (by decide)) tk (da_cons (de_ix (de_name 0) de_int) (da_cons de_int (da_cons de_int da_nil))) (alenS (alenS (alenS alen0))))).frz)) (dw_or1 (dt_tru ((do_lc [("one", 4)] sc_is_rule.nd (di_any (de_ix (de_name 0) de_int)) (fun _ _ _ _ _ => (dgb_name 4 sc_is_rule.nd)) (fun _ _ _ _ _ => (dts_one (dt_not (dt_tru ((do_f (ok_is_name T) (hr.mono (by decide)) takesWf (da_cons (de_ix (de_name 4) de_int) da_nil) (alenS alen0))).frz)))) (fun _ _ _ _ _ => (de_name 4)))).frz))).dt (dss_one (dst_ret (de_bl).rv)) dss_nil)
    (dss_cons (dst_if (dw_or (dt_not (dt_tru ((do_f (ok_are_pairs T) (hr.mono (by decide)) tk (da_cons (de_ix (de_name 0) de_int) (da_cons de_int (da_cons de_int da_nil))) (alenS (alenS (alenS alen0))))).frz)) (dw_or1 (dt_tru ((do_lc [("one", 4)] sc_is_rule.nd (di_any (de_ix (de_name 0) de_int)) (fun _ _ _ _ _ => (dgb_name 4 sc_is_rule.nd)) (fun _ _ _ _ _ => (dts_one (dt_not (dt_tru ((do_f (ok_is_number T) (hr.mono (by decide)) takesWf (da_cons (de_ix (de_name 4) de_int) (da_cons de_int (da_cons de_int da_nil))) (alenS (alenS (alenS alen0))))).frz)))) (fun _ _ _ _ _ => (de_name 4)))).frz))).dt (dss_one (dst_ret (de_bl).rv)) dss_nil)
    (dss_cons (dst_set 1 sc_is_rule.nd ((do_lc [("one", 4)] sc_is_rule.nd (di_any (de_ix (de_name 0) de_int)) (fun _ _ _ _ _ => (dgb_name 4 sc_is_rule.nd)) (fun _ _ _ _ _ => dts_nil) (fun _ _ _ _ _ => (de_ix (de_name 4) de_int)))).frz)
    (dss_cons (dst_set 2 sc_is_rule.nd ((do_lc [("one", 4)] sc_is_rule.nd (di_any (de_ix (de_name 0) de_int)) (fun _ _ _ _ _ => (dgb_name 4 sc_is_rule.nd)) (fun _ _ _ _ _ => dts_nil) (fun _ _ _ _ _ => (de_ix (de_name 4) de_int)))).frz)
    (dss_cons (dst_set 3 sc_is_rule.nd ((do_lc [("one", 4)] sc_is_rule.nd (di_any (de_ix (de_name 0) de_int)) (fun _ _ _ _ _ => (dgb_name 4 sc_is_rule.nd)) (fun _ _ _ _ _ => dts_nil) (fun _ _ _ _ _ => (de_ix (de_name 4) de_int)))).frz)
    (dss_cons (dst_if (dt_not (dt_tru ((do_f (ok_is_tuple T) (hr.mono (by decide)) tk (da_cons (de_ix (de_name 0) de_int) (da_cons de_int (da_cons de_int da_nil))) (alenS (alenS (alenS alen0))))).frz)) (dss_one (dst_ret (de_bl).rv)) dss_nil)
    (dss_one (dst_ret ((de_cmp (eq_ok hr.units) ((do_lc [("one", 4)] sc_is_rule.nd (di_any (de_ix (de_name 0) de_int)) (fun _ _ _ _ _ => (dgb_name 4 sc_is_rule.nd)) (fun _ _ _ _ _ => (dts_one (dt_not (dt_tru ((do_f (ok_is_step T) (hr.mono (by decide)) takesWf (da_cons (de_name 4) (da_cons (de_name 2) (da_cons (de_name 1) (da_cons (de_name 3) da_nil)))) (alenS (alenS (alenS (alenS alen0)))))).frz)))) (fun _ _ _ _ _ => (de_name 4)))).frz ((do_lst da_nil)).frz)).rv)))))))))))
theorem ok_check_rule (T : Tx K mg) : Okf P w K mg base 14 "check_rule" ["value"] (F_check_rule K) :=
  T.d_check_rule.ok sc_check_rule 0 rfl fun cdv A outer s H E hr tk po =>
    (dss_one (dst_if (dt_not (dt_tru ((do_f (ok_is_rule T) (hr.mono (by decide)) tk (da_cons (de_name 0) da_nil) (alenS alen0))).frz)) (dss_one (dst_rs T.x_BadRule tk)) dss_nil))
theorem ok__law_mixed (T : Tx K mg) : Okf P w K mg base 1 "_law_mixed" ["number", "k"] F__law_mixed :=
  T.d__law_mixed.ok sc__law_mixed 1 rfl fun cdv A outer s H E hr tk po =>
    (dss_cons (dst_set 2 sc__law_mixed.nd (de_op mod_ok (de_op add_ok (de_op add_ok (de_op mul_ok (de_name 0) de_int) (de_op mul_ok (de_name 1) de_int)) de_int) de_int))
    (dss_one (dst_ret ((de_op mod_ok (de_op add_ok (de_op mul_ok (de_name 2) (de_op add_ok (de_op fdiv_ok (de_name 2) de_int) de_int)) (de_name 1)) de_int)).rv)))
theorem ok__law_numbers (T : Tx K mg) : Okf P w K mg base 2 "_law_numbers" ["script"] F__law_numbers :=
  T.d__law_numbers.ok sc__law_numbers 4 rfl fun cdv A outer s H E hr tk po =>
    (dss_cons (dst_new 1 sc__law_numbers.nd (do_lst da_nil))
    (dss_cons (dst_for po (di_any (de_name 0)) (dg_name 2 sc__law_numbers.nd) (dss_one (dst_if (dt_cmp ge_ok (de_name 2) (de_op pow_ok de_int de_int)) (dss_cons (dst_set 3 sc__law_numbers.nd (de_name 2))
        (dss_one (dst_for po (di_rng de_int T.z_range) (dg_name 4 sc__law_numbers.nd) (dss_one (dst_if (dt_cmp gt_ok (de_name 3) de_int) (dss_cons (dst_exp (de_mt PySem.F.slot_list_append PySem.F.type_list_append app_ok (de_name 1) (da_cons (de_op mod_ok (de_name 3) de_int) da_nil)))
            (dss_one (dst_set 3 sc__law_numbers.nd (de_op fdiv_ok (de_name 3) de_int)))) dss_nil))))) (dss_cons (dst_exp (de_mt PySem.F.slot_list_append PySem.F.type_list_append app_ok (de_name 1) (da_cons (de_op mod_ok (de_name 2) de_int) da_nil)))
        (dss_one (dst_for po (di_rng de_int T.z_range) (dg_name 4 sc__law_numbers.nd) (dss_one (dst_exp (de_mt PySem.F.slot_list_append PySem.F.type_list_append app_ok (de_name 1) (da_cons (de_op mod_ok ((do_f (ok__law_mixed T) (hr.mono (by decide)) tk (da_cons ((do_f (ok__law_mixed T) (hr.mono (by decide)) tk (da_cons (de_op mod_ok (de_name 2) de_int) (da_cons (de_name 4) da_nil)) (alenS (alenS alen0)))).frz (da_cons (de_op add_ok (de_name 4) de_int) da_nil)) (alenS (alenS alen0)))).frz de_int) da_nil))))))))))
    (dss_one (dst_ret ((de_name 1)).rv))))
theorem ok__law_draw (T : Tx K mg) : Okf P w K mg base 2 "_law_draw" ["draws"] F__law_draw :=
  T.d__law_draw.ok sc__law_draw 2 rfl fun cdv A outer s H E hr tk po =>
    (dss_cons (dst_set 1 sc__law_draw.nd (de_ix (de_name 0) de_int))
    (dss_cons (dst_sub (de_op add_ok (de_name 1) de_int) (de_name 0) de_int)
    (dss_cons (dst_if (dt_cmp lt_ok (de_name 1) (de_callB len_ok T.z_len bt_len (da_cons (de_ix (de_name 0) de_int) da_nil))) (dss_one (dst_ret ((de_ix (de_ix (de_name 0) de_int) (de_name 1))).rv)) dss_nil)
    (dss_cons (dst_set 2 sc__law_draw.nd (de_op add_ok de_int (de_name 1)))
    (dss_cons (dst_if (dt_cmp gt_ok (de_callB len_ok T.z_len bt_len (da_cons (de_ix (de_name 0) de_int) da_nil)) de_int) (dss_one (dst_set 2 sc__law_draw.nd (de_op add_ok (de_name 2) (de_op mul_ok de_int (de_ix (de_ix (de_name 0) de_int) de_int))))) dss_nil)
    (dss_one (dst_ret ((de_op mod_ok ((do_f (ok__law_mixed T) (hr.mono (by decide)) tk (da_cons ((do_f (ok__law_mixed T) (hr.mono (by decide)) tk (da_cons (de_name 2) (da_cons (de_name 1) da_nil)) (alenS (alenS alen0)))).frz (da_cons de_int da_nil)) (alenS (alenS alen0)))).frz de_int)).rv)))))))
theorem st_ok__law_all_equal {k : Nat} (hk : 0 ≤ k) {f__law_all_equal : List S → M Rv} {f__law_equal : List S → M Rv} (T : Tx K mg) (h__law_all_equal : Okf P w K mg base k "_law_all_equal" ["actual", "due"] f__law_all_equal) (h__law_equal : Okf P w K mg base k "_law_equal" ["actual", "due"] f__law_equal) : Okf P w K mg base (k + 1) "_law_all_equal" ["actual", "due"] (runG 1 (B__law_all_equal f__law_all_equal f__law_equal)) :=
  T.d__law_all_equal.ok sc__law_all_equal 1 rfl fun cdv A outer s H E hr tk po =>
    (dss_cons (dst_for po (di_rng (de_callB len_ok T.z_len bt_len (da_cons (de_name 1) da_nil)) T.z_range) (dg_name 2 sc__law_all_equal.nd) (dss_one (dst_if (dt_not (dt_tru ((do_f h__law_equal hr tk (da_cons (de_ix (de_name 0) (de_name 2)) (da_cons (de_ix (de_name 1) (de_name 2)) da_nil)) (alenS (alenS alen0)))).frz)) (dss_one (dst_ret (de_bl).rv)) dss_nil)))
    (dss_one (dst_ret (de_bl).rv)))
theorem st_ok__law_equal {k : Nat} (hk : 0 ≤ k) {f__law_all_equal : List S → M Rv} {f__law_equal : List S → M Rv} (T : Tx K mg) (h__law_all_equal : Okf P w K mg base k "_law_all_equal" ["actual", "due"] f__law_all_equal) (h__law_equal : Okf P w K mg base k "_law_equal" ["actual", "due"] f__law_equal) : Okf P w K mg base (k + 1) "_law_equal" ["actual", "due"] (runG 0 (B__law_equal f__law_all_equal f__law_equal)) :=
  T.d__law_equal.ok sc__law_equal 0 rfl fun cdv A outer s H E hr tk po =>
    (dss_cons (dst_if (dt_tru (de_isa (de_name 1) T.z_isinstance T.z_list (.inr (.inr (.inr (.inl rfl)))) bt_list)) (dss_cons (dst_if (dw_or (dt_not (dt_tru (de_isa (de_name 0) T.z_isinstance T.z_list (.inr (.inr (.inr (.inl rfl)))) bt_list))) (dw_or1 (dt_cmp (ne_ok hr.units) (de_callB len_ok T.z_len bt_len (da_cons (de_name 0) da_nil)) (de_callB len_ok T.z_len bt_len (da_cons (de_name 1) da_nil))))).dt (dss_one (dst_ret (de_bl).rv)) dss_nil)
      (dss_one (dst_ret (do_f h__law_all_equal hr tk (da_cons (de_name 0) (da_cons (de_name 1) da_nil)) (alenS (alenS alen0)))))) dss_nil)
    (dss_cons (dst_if (dt_tru (de_isa (de_name 1) T.z_isinstance T.z_tuple (.inr (.inr (.inr (.inr (.inl rfl))))) bt_tuple)) (dss_cons (dst_if (dw_or (dt_not (dt_tru (de_isa (de_name 0) T.z_isinstance T.z_tuple (.inr (.inr (.inr (.inr (.inl rfl))))) bt_tuple))) (dw_or1 (dt_cmp (ne_ok hr.units) (de_callB len_ok T.z_len bt_len (da_cons (de_name 0) da_nil)) (de_callB len_ok T.z_len bt_len (da_cons (de_name 1) da_nil))))).dt (dss_one (dst_ret (de_bl).rv)) dss_nil)
      (dss_one (dst_ret (do_f h__law_all_equal hr tk (da_cons (de_name 0) (da_cons (de_name 1) da_nil)) (alenS (alenS alen0)))))) dss_nil)
    (dss_cons (dst_if (dt_tru (de_isa (de_name 1) T.z_isinstance T.z_bool (.inr (.inl rfl)) bt_bool)) (dss_one (dst_ret ((de_and (de_isa (de_name 0) T.z_isinstance T.z_bool (.inr (.inl rfl)) bt_bool) (de_one (de_cmp (eq_ok hr.units) (de_name 0) (de_name 1))))).rv)) dss_nil)
    (dss_cons (dst_if (dt_tru (de_isa (de_name 1) T.z_isinstance T.z_int (.inl rfl) bt_int)) (dss_one (dst_ret ((de_and (de_isa (de_name 0) T.z_isinstance T.z_int (.inl rfl) bt_int) (de_and (de_not (de_isa (de_name 0) T.z_isinstance T.z_bool (.inr (.inl rfl)) bt_bool)) (de_one (de_cmp (eq_ok hr.units) (de_name 0) (de_name 1)))))).rv)) dss_nil)
    (dss_cons (dst_if (dt_tru (de_isa (de_name 1) T.z_isinstance T.z_str (.inr (.inr (.inl rfl))) bt_str)) (dss_one (dst_ret ((de_and (de_isa (de_name 0) T.z_isinstance T.z_str (.inr (.inr (.inl rfl))) bt_str) (de_one (de_cmp (eq_ok hr.units) (de_name 0) (de_name 1))))).rv)) dss_nil)
    (dss_one (dst_ret ((de_isn (de_name 0))).rv)))))))
theorem oks__law_all_equal__law_equal (T : Tx K mg) : ∀ n, Okf P w K mg base (0 + n) "_law_all_equal" ["actual", "due"] (F__law_all_equal n) ∧ Okf P w K mg base (0 + n) "_law_equal" ["actual", "due"] (F__law_equal n)
  | 0 => ⟨T.d__law_all_equal.ok0, T.d__law_equal.ok0⟩
  | n + 1 => have ih := oks__law_all_equal__law_equal T n; ⟨st_ok__law_all_equal (Nat.le_add_right _ _) T ih.1 ih.2, st_ok__law_equal (Nat.le_add_right _ _) T ih.1 ih.2⟩
theorem ok__law_all_equal (T : Tx K mg) (n : Nat) : Okf P w K mg base (0 + n) "_law_all_equal" ["actual", "due"] (F__law_all_equal n) := (oks__law_all_equal__law_equal T n).1
theorem ok__law_equal (T : Tx K mg) (n : Nat) : Okf P w K mg base (0 + n) "_law_equal" ["actual", "due"] (F__law_equal n) := (oks__law_all_equal__law_equal T n).2
theorem ok__law_rule (T : Tx K mg) : Okf P w K mg base 3 "_law_rule" ["draws"] F__law_rule :=
  T.d__law_rule.ok sc__law_rule 14 rfl fun cdv A outer s H E hr tk po =>
    (dss_cons (dst_set 1 sc__law_rule.nd (de_sl (de_tup (da_cons (de_tup (da_cons de_str (da_cons (de_tup (da_cons de_str (da_cons de_str da_nil))) da_nil))) (da_cons (de_tup (da_cons de_str (da_cons (de_tup (da_cons de_str (da_cons de_str da_nil))) da_nil))) (da_cons (de_tup (da_cons de_str (da_cons (de_tup (da_cons de_str da_nil)) da_nil))) da_nil)))) dpo_none (dpo_some (de_op add_ok de_int (de_op mod_ok ((do_fC (ok__law_draw T) (hr.mono (by decide)) tk (da_cons (de_name 0) da_nil) (alenS alen0))).frz de_int)))))
    (dss_cons (dst_set 2 sc__law_rule.nd (de_sl ((do_lst (da_cons de_str (da_cons de_str (da_cons de_str (da_cons de_str da_nil)))))).frz dpo_none (dpo_some (de_op add_ok de_int (de_op mod_ok ((do_fC (ok__law_draw T) (hr.mono (by decide)) tk (da_cons (de_name 0) da_nil) (alenS alen0))).frz de_int)))))
    (dss_cons (dst_set 3 sc__law_rule.nd ((do_lst (da_cons de_str (da_cons de_str da_nil)))).frz)
    (dss_cons (dst_set 4 sc__law_rule.nd (de_callT tuple_ok T.z_tuple bt_tuple (da_cons ((do_lc [("name", 8)] sc__law_rule.nd (di_any (de_name 2)) (fun _ _ _ _ _ => (dgb_name 8 sc__law_rule.nd)) (fun _ _ _ _ _ => dts_nil) (fun _ _ _ _ _ => (de_tup (da_cons (de_name 8) (da_cons (de_ix (de_name 3) (de_op fdiv_ok (de_op mod_ok ((do_fC (ok__law_draw T) (hr.mono (by decide)) takesWf (da_cons (de_name 0) da_nil) (alenS alen0))).frz de_int) de_int)) da_nil)))))).frz da_nil)))
    (dss_cons (dst_set 5 sc__law_rule.nd (de_sl (de_tup (da_cons (de_tup (da_cons de_str (da_cons (de_op add_ok de_int (de_op mod_ok ((do_fC (ok__law_draw T) (hr.mono (by decide)) tk (da_cons (de_name 0) da_nil) (alenS alen0))).frz de_int)) da_nil))) da_nil)) dpo_none (dpo_some (de_op mod_ok ((do_fC (ok__law_draw T) (hr.mono (by decide)) tk (da_cons (de_name 0) da_nil) (alenS alen0))).frz de_int))))
    (dss_cons (dst_new 6 sc__law_rule.nd (do_lst da_nil))
    (dss_cons (dst_set 7 sc__law_rule.nd (de_op mod_ok ((do_fC (ok__law_draw T) (hr.mono (by decide)) tk (da_cons (de_name 0) da_nil) (alenS alen0))).frz de_int))
    (dss_cons (dst_for po (di_any (de_name 2)) (dg_name 8 sc__law_rule.nd) (dss_one (dst_for po (di_any (de_name 1)) (dg_name 9 sc__law_rule.nd) (dss_one (dst_for po (di_rng (de_op add_ok de_int (de_op mul_ok (de_op mod_ok ((do_fC (ok__law_draw T) (hr.mono (by decide)) tk (da_cons (de_name 0) da_nil) (alenS alen0))).frz de_int) (de_callB len_ok T.z_len bt_len (da_cons (de_name 5) da_nil)))) T.z_range) (dg_name 10 sc__law_rule.nd) (dss_cons (dst_set 11 sc__law_rule.nd (de_sl (de_tup (da_cons (de_tup (da_cons de_str (da_cons (de_op mod_ok ((do_fC (ok__law_draw T) (hr.mono (by decide)) tk (da_cons (de_name 0) da_nil) (alenS alen0))).frz de_int) (da_cons (de_op add_ok de_int (de_op mod_ok ((do_fC (ok__law_draw T) (hr.mono (by decide)) tk (da_cons (de_name 0) da_nil) (alenS alen0))).frz de_int)) da_nil)))) da_nil)) dpo_none (dpo_some (de_op mul_ok (de_callB len_ok T.z_len bt_len (da_cons (de_name 5) da_nil)) (de_op sub_ok de_int (de_name 10))))))
          (dss_cons (dst_set 12 sc__law_rule.nd (de_sl (de_tup (da_cons (de_tup (da_cons de_str (da_cons (de_ix ((do_lst (da_cons de_int (da_cons de_int (da_cons (de_neg de_int) (da_cons de_int (da_cons de_int da_nil))))))).frz (de_op mod_ok ((do_fC (ok__law_draw T) (hr.mono (by decide)) tk (da_cons (de_name 0) da_nil) (alenS alen0))).frz de_int)) da_nil))) da_nil)) dpo_none (dpo_some (de_callB len_ok T.z_len bt_len (da_cons (de_name 5) da_nil)))))
          (dss_cons (dst_set 13 sc__law_rule.nd (de_if (dt_cmp gt_ok (de_name 7) de_int) (de_ix (de_name 2) (de_op mod_ok ((do_fC (ok__law_draw T) (hr.mono (by decide)) tk (da_cons (de_name 0) da_nil) (alenS alen0))).frz (de_callB len_ok T.z_len bt_len (da_cons (de_name 2) da_nil)))) (de_name 8)))
          (dss_cons (dst_set 14 sc__law_rule.nd (de_if (dt_cmp lt_ok (de_name 7) de_int) (de_ix ((do_lst (da_cons de_int (da_cons de_int (da_cons de_int (da_cons (de_neg de_int) da_nil)))))).frz (de_op mod_ok ((do_fC (ok__law_draw T) (hr.mono (by decide)) tk (da_cons (de_name 0) da_nil) (alenS alen0))).frz de_int)) de_int))
          (dss_one (dst_if (dt_cmp gt_ok (de_op mod_ok ((do_fC (ok__law_draw T) (hr.mono (by decide)) tk (da_cons (de_name 0) da_nil) (alenS alen0))).frz de_int) de_int) (dss_one (dst_exp (de_mt PySem.F.slot_list_append PySem.F.type_list_append app_ok (de_name 6) (da_cons (de_tup (da_cons (de_name 8) (da_cons (de_ix (de_name 9) de_int) (da_cons (de_name 11) (da_cons (de_name 13) (da_cons (de_name 12) (da_cons (de_name 14) da_nil))))))) da_nil)))) dss_nil)))))))))))
    (dss_one (dst_ret ((de_tup (da_cons de_str (da_cons de_str (da_cons (de_ix ((do_lst (da_cons de_str (da_cons de_str da_nil)))).frz (de_op mod_ok ((do_fC (ok__law_draw T) (hr.mono (by decide)) tk (da_cons (de_name 0) da_nil) (alenS alen0))).frz de_int)) (da_cons (de_name 1) (da_cons (de_name 4) (da_cons (de_name 5) (da_cons (de_callT tuple_ok T.z_tuple bt_tuple (da_cons (de_name 6) da_nil)) da_nil))))))))).rv))))))))))
theorem ok__law_is_number (T : Tx K mg) : Okf P w K mg base 1 "_law_is_number" ["value", "low", "high"] F__law_is_number :=
  T.d__law_is_number.ok sc__law_is_number 0 rfl fun cdv A outer s H E hr tk po =>
    (dss_one (dst_ret ((de_and (de_isa (de_name 0) T.z_isinstance T.z_int (.inl rfl) bt_int) (de_and (de_not (de_isa (de_name 0) T.z_isinstance T.z_bool (.inr (.inl rfl)) bt_bool)) (de_one (de_chn le_ok le_ok (de_name 1) (de_name 0) (de_name 2)))))).rv))
theorem ok__law_is_name (T : Tx K mg) : Okf P w K mg base 1 "_law_is_name" ["value"] F__law_is_name :=
  T.d__law_is_name.ok sc__law_is_name 1 rfl fun cdv A outer s H E hr tk po =>
    (dss_cons (dst_if (dw_or (dt_not (dt_tru (de_isa (de_name 0) T.z_isinstance T.z_str (.inr (.inr (.inl rfl))) bt_str))) (dw_or (dt_not (dt_chn le_ok le_ok de_int (de_callB len_ok T.z_len bt_len (da_cons (de_name 0) da_nil)) de_int)) (dw_or1 (dt_cmp (nin_ok (hu65 hr)) (de_ix (de_name 0) de_int) de_str)))).dt (dss_one (dst_ret (de_bl).rv)) dss_nil)
    (dss_one (dst_ret ((de_cmp (eq_ok hr.units) (de_callB len_ok T.z_len bt_len (da_cons ((do_lc [("sign", 1)] sc__law_is_name.nd (di_any (de_name 0)) (fun _ _ _ _ _ => (dgb_name 1 sc__law_is_name.nd)) (fun _ _ _ _ _ => (dts_one (dt_cmp (nin_ok (hu65 hr)) (de_name 1) de_str))) (fun _ _ _ _ _ => (de_name 1)))).frz da_nil)) de_int)).rv)))
theorem ok__law_is_condition (T : Tx K mg) : Okf P w K mg base 2 "_law_is_condition" ["value"] F__law_is_condition :=
  T.d__law_is_condition.ok sc__law_is_condition 1 rfl fun cdv A outer s H E hr tk po =>
    (dss_cons (dst_if (dw_or (dt_not (dt_tru (de_isa (de_name 0) T.z_isinstance T.z_tuple (.inr (.inr (.inr (.inr (.inl rfl))))) bt_tuple))) (dw_or (dt_cmp lt_ok (de_callB len_ok T.z_len bt_len (da_cons (de_name 0) da_nil)) de_int) (dw_or1 (dt_not (dt_tru (de_isa (de_ix (de_name 0) de_int) T.z_isinstance T.z_str (.inr (.inr (.inl rfl))) bt_str)))))).dt (dss_one (dst_ret (de_bl).rv)) dss_nil)
    (dss_cons (dst_if (dt_cmp (eq_ok hr.units) (de_ix (de_name 0) de_int) de_str) (dss_one (dst_ret ((de_cmp (eq_ok hr.units) (de_callB len_ok T.z_len bt_len (da_cons (de_name 0) da_nil)) de_int)).rv)) dss_nil)
    (dss_cons (dst_if (dt_cmp (eq_ok hr.units) (de_ix (de_name 0) de_int) de_str) (dss_one (dst_ret ((de_and (de_cmp (eq_ok hr.units) (de_callB len_ok T.z_len bt_len (da_cons (de_name 0) da_nil)) de_int) (de_and ((do_f (ok__law_is_number T) (hr.mono (by decide)) tk (da_cons (de_ix (de_name 0) de_int) (da_cons de_int (da_cons de_int da_nil))) (alenS (alenS (alenS alen0))))).frz (de_and ((do_f (ok__law_is_number T) (hr.mono (by decide)) tk (da_cons (de_ix (de_name 0) de_int) (da_cons de_int (da_cons de_int da_nil))) (alenS (alenS (alenS alen0))))).frz (de_one (de_cmp le_ok (de_ix (de_name 0) de_int) (de_ix (de_name 0) de_int))))))).rv)) dss_nil)
    (dss_cons (dst_if (dw_or (dt_cmp (nin_ok (hu65 hr)) (de_ix (de_name 0) de_int) (de_tup (da_cons de_str (da_cons de_str (da_cons de_str da_nil))))) (dw_or1 (dt_not (dt_chn le_ok le_ok de_int (de_callB len_ok T.z_len bt_len (da_cons (de_name 0) da_nil)) de_int)))).dt (dss_one (dst_ret (de_bl).rv)) dss_nil)
    (dss_one (dst_ret ((de_cmp (eq_ok hr.units) (de_callB len_ok T.z_len bt_len (da_cons ((do_lc [("name", 1)] sc__law_is_condition.nd (di_any (de_sl (de_name 0) (dpo_some de_int) dpo_none)) (fun _ _ _ _ _ => (dgb_name 1 sc__law_is_condition.nd)) (fun _ _ _ _ _ => (dts_one (dt_not (dt_tru ((do_f (ok__law_is_name T) (hr.mono (by decide)) takesWf (da_cons (de_name 1) da_nil) (alenS alen0))).frz)))) (fun _ _ _ _ _ => (de_name 1)))).frz da_nil)) de_int)).rv))))))
theorem ok__law_are_pairs (T : Tx K mg) : Okf P w K mg base 2 "_law_are_pairs" ["value", "least", "most"] F__law_are_pairs :=
  T.d__law_are_pairs.ok sc__law_are_pairs 2 rfl fun cdv A outer s H E hr tk po =>
    (dss_cons (dst_if (dw_or (dt_not (dt_tru (de_isa (de_name 0) T.z_isinstance T.z_tuple (.inr (.inr (.inr (.inr (.inl rfl))))) bt_tuple))) (dw_or1 (dt_not (dt_chn le_ok le_ok (de_name 1) (de_callB len_ok T.z_len bt_len (da_cons (de_name 0) da_nil)) (de_name 2))))).dt (dss_one (dst_ret (de_bl).rv)) dss_nil)
    (dss_cons (dst_new 3 sc__law_are_pairs.nd (do_lst da_nil))
    (dss_cons (dst_for po (di_any (de_name 0)) (dg_name 4 sc__law_are_pairs.nd) (dss_cons (dst_if (dw_or (dt_not (dt_tru (de_isa (de_name 4) T.z_isinstance T.z_tuple (.inr (.inr (.inr (.inr (.inl rfl))))) bt_tuple))) (dw_or (dt_cmp (ne_ok hr.units) (de_callB len_ok T.z_len bt_len (da_cons (de_name 4) da_nil)) de_int) (dw_or1 (dt_not (dt_tru ((do_f (ok__law_is_name T) (hr.mono (by decide)) tk (da_cons (de_ix (de_name 4) de_int) da_nil) (alenS alen0))).frz))))).dt (dss_one (dst_ret (de_bl).rv)) dss_nil)
      (dss_one (dst_exp (de_mt PySem.F.slot_list_append PySem.F.type_list_append app_ok (de_name 3) (da_cons (de_ix (de_name 4) de_int) da_nil))))))
    (dss_one (dst_ret ((de_cmp (eq_ok hr.units) (de_lenSet T.z_len T.z_set (de_name 3)) (de_callB len_ok T.z_len bt_len (da_cons (de_name 3) da_nil)))).rv)))))
theorem ok__law_is_step (T : Tx K mg) : Okf P w K mg base 3 "_law_is_step" ["step", "states", "kinds", "tallies"] F__law_is_step :=
  T.d__law_is_step.ok sc__law_is_step 4 rfl fun cdv A outer s H E hr tk po =>
    (dss_cons (dst_if (dw_or (dt_not (dt_tru (de_isa (de_name 0) T.z_isinstance T.z_tuple (.inr (.inr (.inr (.inr (.inl rfl))))) bt_tuple))) (dw_or (dt_cmp (ne_ok hr.units) (de_callB len_ok T.z_len bt_len (da_cons (de_name 0) da_nil)) de_int) (dw_or (dt_not (dt_tru (de_isa (de_ix (de_name 0) de_int) T.z_isinstance T.z_tuple (.inr (.inr (.inr (.inr (.inl rfl))))) bt_tuple))) (dw_or1 (dt_not (dt_tru (de_isa (de_ix (de_name 0) de_int) T.z_isinstance T.z_tuple (.inr (.inr (.inr (.inr (.inl rfl))))) bt_tuple))))))).dt (dss_one (dst_ret (de_bl).rv)) dss_nil)
    (dss_cons (dst_for po (di_any ((do_lst (da_cons (de_tup (da_cons (de_ix (de_name 0) de_int) (da_cons (de_name 1) da_nil))) (da_cons (de_tup (da_cons (de_ix (de_name 0) de_int) (da_cons (de_name 2) da_nil))) (da_cons (de_tup (da_cons (de_ix (de_name 0) de_int) (da_cons (de_name 1) da_nil))) da_nil))))).frz) (dg_tup 2 (dgs_cons (dg_name 4 sc__law_is_step.nd) (dgs_cons (dg_name 5 sc__law_is_step.nd) dgs_nil)) (gts_lenS (gts_lenS gts_len0))) (dss_one (dst_if (dw_or (dt_not (dt_tru ((do_f (ok__law_is_name T) (hr.mono (by decide)) tk (da_cons (de_name 4) da_nil) (alenS alen0))).frz)) (dw_or1 (dt_cmp (nin_ok (hu65 hr)) (de_name 4) (de_name 5)))).dt (dss_one (dst_ret (de_bl).rv)) dss_nil)))
    (dss_cons (dst_for po (di_any (de_ix (de_name 0) de_int)) (dg_name 6 sc__law_is_step.nd) (dss_cons (dst_if (dw_or (dt_not (dt_tru (de_isa (de_name 6) T.z_isinstance T.z_tuple (.inr (.inr (.inr (.inr (.inl rfl))))) bt_tuple))) (dw_or (dt_cmp (ne_ok hr.units) (de_callB len_ok T.z_len bt_len (da_cons (de_name 6) da_nil)) de_int) (dw_or (dt_not (dt_tru ((do_f (ok__law_is_name T) (hr.mono (by decide)) tk (da_cons (de_ix (de_name 6) de_int) da_nil) (alenS alen0))).frz)) (dw_or1 (dt_cmp (nin_ok (hu65 hr)) (de_ix (de_name 6) de_int) (de_name 3)))))).dt (dss_one (dst_ret (de_bl).rv)) dss_nil)
      (dss_one (dst_if (dw_or (dt_not (dt_tru ((do_f (ok__law_is_number T) (hr.mono (by decide)) tk (da_cons (de_ix (de_name 6) de_int) (da_cons de_int (da_cons de_int da_nil))) (alenS (alenS (alenS alen0))))).frz)) (dw_or1 (dt_not (dt_tru ((do_f (ok__law_is_number T) (hr.mono (by decide)) tk (da_cons (de_ix (de_name 6) de_int) (da_cons de_int (da_cons de_int da_nil))) (alenS (alenS (alenS alen0))))).frz)))).dt (dss_one (dst_ret (de_bl).rv)) dss_nil))))
    (dss_cons (dst_if (dt_not (dt_tru ((do_f (ok__law_are_pairs T) (hr.mono (by decide)) tk (da_cons (de_ix (de_name 0) de_int) (da_cons de_int (da_cons de_int da_nil))) (alenS (alenS (alenS alen0))))).frz)) (dss_one (dst_ret (de_bl).rv)) dss_nil)
    (dss_cons (dst_for po (di_any (de_ix (de_name 0) de_int)) (dg_tup 2 (dgs_cons (dg_name 4 sc__law_is_step.nd) (dgs_cons (dg_name 7 sc__law_is_step.nd) dgs_nil)) (gts_lenS (gts_lenS gts_len0))) (dss_one (dst_if (dw_or (dt_cmp (nin_ok (hu65 hr)) (de_name 4) (de_name 3)) (dw_or1 (dt_not (dt_tru ((do_f (ok__law_is_number T) (hr.mono (by decide)) tk (da_cons (de_name 7) (da_cons (de_neg de_int) (da_cons de_int da_nil))) (alenS (alenS (alenS alen0))))).frz)))).dt (dss_one (dst_ret (de_bl).rv)) dss_nil)))
    (dss_one (dst_ret (do_f (ok__law_is_number T) (hr.mono (by decide)) tk (da_cons (de_ix (de_name 0) de_int) (da_cons (de_neg (de_op pow_ok de_int de_int)) (da_cons (de_op pow_ok de_int de_int) da_nil))) (alenS (alenS (alenS alen0)))))))))))
theorem ok__law_is_rule (T : Tx K mg) : Okf P w K mg base 4 "_law_is_rule" ["rule"] F__law_is_rule :=
  T.d__law_is_rule.ok sc__law_is_rule 4 rfl fun cdv A outer s H E hr tk po =>
    (dss_cons (dst_if (dw_or (dt_not (dt_tru (de_isa (de_name 0) T.z_isinstance T.z_tuple (.inr (.inr (.inr (.inr (.inl rfl))))) bt_tuple))) (dw_or (dt_cmp (ne_ok hr.units) (de_callB len_ok T.z_len bt_len (da_cons (de_name 0) da_nil)) de_int) (dw_or (dt_not (dt_tru (de_isa (de_ix (de_name 0) de_int) T.z_isinstance T.z_str (.inr (.inr (.inl rfl))) bt_str))) (dw_or1 (dt_cmp (ne_ok hr.units) (de_ix (de_name 0) de_int) de_str))))).dt (dss_one (dst_ret (de_bl).rv)) dss_nil)
    (dss_cons (dst_if (dw_or (dt_not (dt_tru ((do_f (ok__law_is_name T) (hr.mono (by decide)) tk (da_cons (de_ix (de_name 0) de_int) da_nil) (alenS alen0))).frz)) (dw_or (dt_not (dt_tru (de_isa (de_ix (de_name 0) de_int) T.z_isinstance T.z_str (.inr (.inr (.inl rfl))) bt_str))) (dw_or1 (dt_cmp (nin_ok (hu65 hr)) (de_ix (de_name 0) de_int) (de_tup (da_cons de_str (da_cons de_str da_nil))))))).dt (dss_one (dst_ret (de_bl).rv)) dss_nil)
    (dss_cons (dst_if (dw_or (dt_not (dt_tru ((do_f (ok__law_are_pairs T) (hr.mono (by decide)) tk (da_cons (de_ix (de_name 0) de_int) (da_cons de_int (da_cons de_int da_nil))) (alenS (alenS (alenS alen0))))).frz)) (dw_or (dt_not (dt_tru ((do_f (ok__law_are_pairs T) (hr.mono (by decide)) tk (da_cons (de_ix (de_name 0) de_int) (da_cons de_int (da_cons de_int da_nil))) (alenS (alenS (alenS alen0))))).frz)) (dw_or1 (dt_not (dt_tru ((do_f (ok__law_are_pairs T) (hr.mono (by decide)) tk (da_cons (de_ix (de_name 0) de_int) (da_cons de_int (da_cons de_int da_nil))) (alenS (alenS (alenS alen0))))).frz))))).dt (dss_one (dst_ret (de_bl).rv)) dss_nil)
    (dss_cons (dst_if (dw_or (dt_cmp gt_ok (de_callB len_ok T.z_len bt_len (da_cons ((do_lc [("pair", 2)] sc__law_is_rule.nd (di_any (de_ix (de_name 0) de_int)) (fun _ _ _ _ _ => (dgb_name 2 sc__law_is_rule.nd)) (fun _ _ _ _ _ => (dts_one (dt_not (dt_tru ((do_f (ok__law_is_condition T) (hr.mono (by decide)) takesWf (da_cons (de_ix (de_name 2) de_int) da_nil) (alenS alen0))).frz)))) (fun _ _ _ _ _ => de_int))).frz da_nil)) de_int) (dw_or1 (dt_cmp gt_ok (de_callB len_ok T.z_len bt_len (da_cons ((do_lc [("pair", 2)] sc__law_is_rule.nd (di_any (de_ix (de_name 0) de_int)) (fun _ _ _ _ _ => (dgb_name 2 sc__law_is_rule.nd)) (fun _ _ _ _ _ => (dts_one (dt_not (dt_tru ((do_f (ok__law_is_name T) (hr.mono (by decide)) takesWf (da_cons (de_ix (de_name 2) de_int) da_nil) (alenS alen0))).frz)))) (fun _ _ _ _ _ => de_int))).frz da_nil)) de_int))).dt (dss_one (dst_ret (de_bl).rv)) dss_nil)
    (dss_cons (dst_if (dw_or (dt_cmp gt_ok (de_callB len_ok T.z_len bt_len (da_cons ((do_lc [("pair", 2)] sc__law_is_rule.nd (di_any (de_ix (de_name 0) de_int)) (fun _ _ _ _ _ => (dgb_name 2 sc__law_is_rule.nd)) (fun _ _ _ _ _ => (dts_one (dt_not (dt_tru ((do_f (ok__law_is_number T) (hr.mono (by decide)) takesWf (da_cons (de_ix (de_name 2) de_int) (da_cons de_int (da_cons de_int da_nil))) (alenS (alenS (alenS alen0))))).frz)))) (fun _ _ _ _ _ => de_int))).frz da_nil)) de_int) (dw_or (dt_not (dt_tru (de_isa (de_ix (de_name 0) de_int) T.z_isinstance T.z_tuple (.inr (.inr (.inr (.inr (.inl rfl))))) bt_tuple))) (dw_or1 (dt_cmp gt_ok (de_callB len_ok T.z_len bt_len (da_cons (de_ix (de_name 0) de_int) da_nil)) de_int)))).dt (dss_one (dst_ret (de_bl).rv)) dss_nil)
    (dss_cons (dst_set 1 sc__law_is_rule.nd ((do_lc [("k", 3)] sc__law_is_rule.nd (di_any (de_tup (da_cons de_int (da_cons de_int (da_cons de_int da_nil))))) (fun _ _ _ _ _ => (dgb_name 3 sc__law_is_rule.nd)) (fun _ _ _ _ _ => dts_nil) (fun _ _ _ _ _ => ((do_lc [("pair", 2)] sc__law_is_rule.nd (di_any (de_ix (de_name 0) (de_name 3))) (fun _ _ _ _ _ => (dgb_name 2 sc__law_is_rule.nd)) (fun _ _ _ _ _ => dts_nil) (fun _ _ _ _ _ => (de_ix (de_name 2) de_int)))).frz))).frz)
    (dss_one (dst_ret ((de_cmp (eq_ok hr.units) (de_callB len_ok T.z_len bt_len (da_cons ((do_lc [("step", 4)] sc__law_is_rule.nd (di_any (de_ix (de_name 0) de_int)) (fun _ _ _ _ _ => (dgb_name 4 sc__law_is_rule.nd)) (fun _ _ _ _ _ => (dts_one (dt_not (dt_tru ((do_f (ok__law_is_step T) (hr.mono (by decide)) takesWf (da_cons (de_name 4) (da_cons (de_ix (de_name 1) de_int) (da_cons (de_ix (de_name 1) de_int) (da_cons (de_ix (de_name 1) de_int) da_nil)))) (alenS (alenS (alenS (alenS alen0)))))).frz)))) (fun _ _ _ _ _ => de_int))).frz da_nil)) de_int)).rv))))))))
theorem st_ok__law_put {k : Nat} (hk : 0 ≤ k) {f__law_put : List S → M Rv} (T : Tx K mg) (h__law_put : Okf P w K mg base k "_law_put" ["value", "places", "thing"] f__law_put) : Okf P w K mg base (k + 1) "_law_put" ["value", "places", "thing"] (runG 2 (B__law_put f__law_put)) :=
  T.d__law_put.ok sc__law_put 2 rfl fun cdv A outer s H E hr tk po =>
    (dss_cons (dst_set 3 sc__law_put.nd (de_ix (de_name 1) de_int))
    (dss_cons (dst_set 4 sc__law_put.nd (de_if (dt_cmp (eq_ok hr.units) (de_callB len_ok T.z_len bt_len (da_cons (de_name 1) da_nil)) de_int) (de_name 2) ((do_f h__law_put hr tk (da_cons (de_ix (de_name 0) (de_name 3)) (da_cons (de_sl (de_name 1) (dpo_some de_int) dpo_none) (da_cons (de_name 2) da_nil))) (alenS (alenS (alenS alen0))))).frz))
    (dss_one (dst_ret ((de_op add_ok (de_op add_ok (de_sl (de_name 0) dpo_none (dpo_some (de_name 3))) (de_tup (da_cons (de_name 4) da_nil))) (de_sl (de_name 0) (dpo_some (de_op add_ok (de_name 3) de_int)) dpo_none))).rv))))
theorem ok__law_put (T : Tx K mg) : ∀ n, Okf P w K mg base (0 + n) "_law_put" ["value", "places", "thing"] (F__law_put n)
  | 0 => T.d__law_put.ok0
  | n + 1 => st_ok__law_put (Nat.le_add_right _ _) T (ok__law_put T n)
theorem ok__law_place (T : Tx K mg) : Okf P w K mg base 3 "_law_place" ["draws", "value"] F__law_place :=
  T.d__law_place.ok sc__law_place 2 rfl fun cdv A outer s H E hr tk po =>
    (dss_cons (dst_new 2 sc__law_place.nd (do_lst da_nil))
    (dss_cons (dst_for po (di_rng de_int T.z_range) (dg_name 3 sc__law_place.nd) (dss_one (dst_if (dw_and (dt_tru (de_isa (de_name 1) T.z_isinstance T.z_tuple (.inr (.inr (.inr (.inr (.inl rfl))))) bt_tuple)) (dw_and (dt_cmp gt_ok (de_callB len_ok T.z_len bt_len (da_cons (de_name 1) da_nil)) de_int) (dw_and1 (dw_or (dt_cmp (eq_ok hr.units) (de_name 3) de_int) (dw_or1 (dt_cmp gt_ok (de_op mod_ok ((do_fC (ok__law_draw T) (hr.mono (by decide)) tk (da_cons (de_name 0) da_nil) (alenS alen0))).frz de_int) de_int))).dt))).dt (dss_cons (dst_exp (de_mt PySem.F.slot_list_append PySem.F.type_list_append app_ok (de_name 2) (da_cons (de_op mod_ok ((do_fC (ok__law_draw T) (hr.mono (by decide)) tk (da_cons (de_name 0) da_nil) (alenS alen0))).frz (de_callB len_ok T.z_len bt_len (da_cons (de_name 1) da_nil))) da_nil)))
        (dss_one (dst_set 1 sc__law_place.nd (de_ix (de_name 1) (de_ix (de_name 2) (de_op sub_ok (de_callB len_ok T.z_len bt_len (da_cons (de_name 2) da_nil)) de_int)))))) dss_nil)))
    (dss_one (dst_ret ((de_name 2)).rv))))
theorem ok__law_spoilt (T : Tx K mg) : Okf P w K mg base 13 "_law_spoilt" ["draws", "rule"] F__law_spoilt :=
  T.d__law_spoilt.ok sc__law_spoilt 4 rfl fun cdv A outer s H E hr tk po =>
    (dss_cons (dst_set 2 sc__law_spoilt.nd ((do_lst (da_cons de_non (da_cons de_bl (da_cons de_int (da_cons de_int (da_cons (de_neg de_int) (da_cons (de_op add_ok (de_op pow_ok de_int de_int) de_int) (da_cons de_str (da_cons de_str (da_cons de_str (da_cons (de_tup da_nil) (da_cons ((do_lst da_nil)).frz (da_cons de_str (da_cons de_str (da_cons (de_tup (da_cons de_str (da_cons de_int da_nil))) (da_cons (de_tup (da_cons de_str da_nil)) (da_cons (de_tup (da_cons de_str (da_cons de_int (da_cons de_int da_nil)))) (da_cons (de_tup (da_cons de_str (da_cons de_int (da_cons de_int da_nil)))) (da_cons (de_tup (da_cons (de_tup (da_cons de_str (da_cons de_int da_nil))) (da_cons (de_tup (da_cons de_str (da_cons de_int da_nil))) da_nil))) da_nil)))))))))))))))))))).frz)
    (dss_cons (dst_set 3 sc__law_spoilt.nd (de_op mod_ok ((do_fC (ok__law_draw T) (hr.mono (by decide)) tk (da_cons (de_name 0) da_nil) (alenS alen0))).frz de_int))
    (dss_cons (dst_if (dt_cmp (eq_ok hr.units) (de_name 3) de_int) (dss_cons (dst_set 4 sc__law_spoilt.nd (de_op add_ok de_int (de_op mod_ok ((do_fC (ok__law_draw T) (hr.mono (by decide)) tk (da_cons (de_name 0) da_nil) (alenS alen0))).frz de_int)))
      (dss_one (dst_ret (do_f (ok__law_put T 12) (hr.mono (by decide)) tk (da_cons (de_name 1) (da_cons ((do_lst (da_cons (de_name 4) da_nil))).frz (da_cons (de_op add_ok (de_ix (de_name 1) (de_name 4)) (de_sl (de_ix (de_name 1) (de_name 4)) dpo_none (dpo_some de_int))) da_nil))) (alenS (alenS (alenS alen0))))))) dss_nil)
    (dss_cons (dst_if (dt_cmp (eq_ok hr.units) (de_name 3) de_int) (dss_one (dst_ret (do_f (ok__law_put T 12) (hr.mono (by decide)) tk (da_cons (de_name 1) (da_cons ((do_lst (da_cons de_int da_nil))).frz (da_cons (de_op mulE_ok (de_ix (de_name 1) de_int) de_int) da_nil))) (alenS (alenS (alenS alen0)))))) dss_nil)
    (dss_cons (dst_if (dt_cmp (eq_ok hr.units) (de_name 3) de_int) (dss_one (dst_ret ((de_ix ((do_lst (da_cons (de_callT list_ok T.z_list bt_list (da_cons (de_name 1) da_nil)) (da_cons (de_op add_ok (de_name 1) (de_tup (da_cons de_int da_nil))) (da_cons (de_sl (de_name 1) dpo_none (dpo_some de_int)) (da_cons de_non (da_cons de_str da_nil))))))).frz (de_op mod_ok ((do_fC (ok__law_draw T) (hr.mono (by decide)) tk (da_cons (de_name 0) da_nil) (alenS alen0))).frz de_int))).rv)) dss_nil)
    (dss_cons (dst_if (dt_cmp (eq_ok hr.units) (de_name 3) de_int) (dss_one (dst_ret (do_f (ok__law_put T 12) (hr.mono (by decide)) tk (da_cons (de_name 1) (da_cons ((do_lst (da_cons de_int da_nil))).frz (da_cons (de_callT tuple_ok T.z_tuple bt_tuple (da_cons ((do_lc [("k", 5)] sc__law_spoilt.nd (di_rng (de_op add_ok de_int (de_op mod_ok ((do_fC (ok__law_draw T) (hr.mono (by decide)) tk (da_cons (de_name 0) da_nil) (alenS alen0))).frz de_int)) T.z_range) (fun _ _ _ _ _ => (dgb_name 5 sc__law_spoilt.nd)) (fun _ _ _ _ _ => dts_nil) (fun _ _ _ _ _ => (de_tup (da_cons (de_op add_ok de_str (de_callT str_ok T.z_str bt_str (da_cons (de_name 5) da_nil))) (da_cons de_str da_nil)))))).frz da_nil)) da_nil))) (alenS (alenS (alenS alen0)))))) dss_nil)
    (dss_one (dst_ret (do_f (ok__law_put T 12) (hr.mono (by decide)) tk (da_cons (de_name 1) (da_cons ((do_fC (ok__law_place T) (hr.mono (by decide)) tk (da_cons (de_name 0) (da_cons (de_name 1) da_nil)) (alenS (alenS alen0)))).frz (da_cons (de_ix (de_name 2) (de_op mod_ok ((do_fC (ok__law_draw T) (hr.mono (by decide)) tk (da_cons (de_name 0) da_nil) (alenS alen0))).frz (de_callB len_ok T.z_len bt_len (da_cons (de_name 2) da_nil)))) da_nil))) (alenS (alenS (alenS alen0))))))))))))
theorem ok__law_told (T : Tx K mg) : Okf P w K mg base 15 "_law_told" ["value"] (F__law_told K) :=
  T.d__law_told.ok sc__law_told 2 rfl fun cdv A outer s H E hr tk po =>
    (dss_cons (dst_try 1 sc__law_told.nd tk ⟨rfl, by decide, .inl T.x_BadRule.g⟩ (ex_sub_BadRule T) (fun _ _ _ tk po => (dss_one (dst_exp ((do_f (ok_check_rule T) (hr.mono (by decide)) tk (da_cons (de_name 0) da_nil) (alenS alen0))).frz))) (fun a oe cls pn c kn ec hz hf => by
      obtain ⟨rfl, hE⟩ := ex_cls T c cls kn ec
      exact (dss_cons (dst_set 2 sc__law_told.nd ((do_lst (da_cons (de_isE 1 hE hz hf (ex_kit_BadArgument T c kn) T.z_isinstance T.x_BadArgument.g) (da_cons (de_isE 1 hE hz hf (ex_kit_BadWords T c kn) T.z_isinstance T.x_BadWords.g) (da_cons (de_isE 1 hE hz hf (ex_kit_BadTreaty T c kn) T.z_isinstance T.x_BadTreaty.g) (da_cons (de_isE 1 hE hz hf (ex_kit_BadForm T c kn) T.z_isinstance T.x_BadForm.g) (da_cons (de_isE 1 hE hz hf (ex_kit_TooLarge T c kn) T.z_isinstance T.x_TooLarge.g) da_nil))))))).frz)
      (dss_one (dst_ret ((de_if (dw_and (dt_tru (de_isE 1 hE hz hf (ex_kit_WhatbefellError T c kn) T.z_isinstance T.x_WhatbefellError.g)) (dw_and1 (dt_cmp (nin_ok (by have z := hu65 hr; exact z)) de_bl (de_name 2)))).dt ((do_lst (da_cons de_str da_nil))).frz ((do_lst (da_cons de_str da_nil))).frz)).rv)))))
    (dss_one (dst_ret (do_lst (da_cons de_str da_nil)))))
theorem ok_law (T : Tx K mg) : Okf P w K mg base 16 "law" ["script"] (F_law K) :=
  T.d_law.ok sc_law 4 rfl fun cdv A outer s H E hr tk po =>
    (dss_cons (dst_new 1 sc_law.nd (do_lst (da_cons ((do_f (ok__law_numbers T) (hr.mono (by decide)) tk (da_cons (de_name 0) da_nil) (alenS alen0))).frz (da_cons de_int da_nil))))
    (dss_cons (dst_set 2 sc_law.nd ((do_fC (ok__law_rule T) (hr.mono (by decide)) tk (da_cons (de_name 1) da_nil) (alenS alen0))).frz)
    (dss_cons (dst_if (dt_isnn ((do_f (ok_check_rule T) (hr.mono (by decide)) tk (da_cons (de_name 2) da_nil) (alenS alen0))).frz) (dss_one (dst_ret (de_bl).rv)) dss_nil)
    (dss_cons (dst_for po (di_rng de_int T.z_range) (dg_name 3 sc_law.nd) (dss_cons (dst_set 4 sc_law.nd ((do_fC (ok__law_spoilt T) (hr.mono (by decide)) tk (da_cons (de_name 1) (da_cons (de_name 2) da_nil)) (alenS (alenS alen0)))).frz)
      (dss_one (dst_if (dt_cmp (ne_ok hr.units) ((do_f (ok__law_told T) (hr.mono (by decide)) tk (da_cons (de_name 4) da_nil) (alenS alen0))).frz (de_ix ((do_lst (da_cons ((do_lst (da_cons de_str da_nil))).frz (da_cons ((do_lst (da_cons de_str da_nil))).frz da_nil)))).frz (de_callT int_ok T.z_int bt_int (da_cons ((do_f (ok__law_is_rule T) (hr.mono (by decide)) tk (da_cons (de_name 4) da_nil) (alenS alen0))).frz da_nil)))) (dss_one (dst_ret (de_bl).rv)) dss_nil))))
    (dss_one (dst_ret (de_bl).rv))))))
theorem law_fn {fd : FuncData} (T : Tx K mg) (Fd : FunD K "law" "law" (defArgs st_law) (defBody st_law) (defScope st_law) [] [] (He.ga K "law") fd) : FnOk P w K mg base (L2.CX P w) 16 (He.ga K "law") fd ["script"] (spE mg 1 (F_law K)) :=
  def_ok Fd sc_law 4 rfl fun cdv A outer s H E hr tk po =>
    (dss_cons (dst_new 1 sc_law.nd (do_lst (da_cons ((do_f (ok__law_numbers T) (hr.mono (by decide)) tk (da_cons (de_name 0) da_nil) (alenS alen0))).frz (da_cons de_int da_nil))))
    (dss_cons (dst_set 2 sc_law.nd ((do_fC (ok__law_rule T) (hr.mono (by decide)) tk (da_cons (de_name 1) da_nil) (alenS alen0))).frz)
    (dss_cons (dst_if (dt_isnn ((do_f (ok_check_rule T) (hr.mono (by decide)) tk (da_cons (de_name 2) da_nil) (alenS alen0))).frz) (dss_one (dst_ret (de_bl).rv)) dss_nil)
    (dss_cons (dst_for po (di_rng de_int T.z_range) (dg_name 3 sc_law.nd) (dss_cons (dst_set 4 sc_law.nd ((do_fC (ok__law_spoilt T) (hr.mono (by decide)) tk (da_cons (de_name 1) (da_cons (de_name 2) da_nil)) (alenS (alenS alen0)))).frz)
      (dss_one (dst_if (dt_cmp (ne_ok hr.units) ((do_f (ok__law_told T) (hr.mono (by decide)) tk (da_cons (de_name 4) da_nil) (alenS alen0))).frz (de_ix ((do_lst (da_cons ((do_lst (da_cons de_str da_nil))).frz (da_cons ((do_lst (da_cons de_str da_nil))).frz da_nil)))).frz (de_callT int_ok T.z_int bt_int (da_cons ((do_f (ok__law_is_rule T) (hr.mono (by decide)) tk (da_cons (de_name 4) da_nil) (alenS alen0))).frz da_nil)))) (dss_one (dst_ret (de_bl).rv)) dss_nil))))
    (dss_one (dst_ret (de_bl).rv))))))
end
end Law

set_option Elab.async false
set_option linter.all false
set_option maxRecDepth 100000
set_option maxHeartbeats 4000000
namespace Law
open PySem L2 Dn
def fan : List He.Fa := [.glo "is_number", .glo "is_name", .glo "is_day", .glo "is_tuple", .glo "are_unlike", .glo "are_names", .glo "conditions_in", .glo "is_condition", .glo "are_few", .glo "is_timeless", .glo "are_pairs", .glo "is_step", .glo "is_rule", .glo "check_rule", .glo "_law_mixed", .glo "_law_numbers", .glo "_law_draw", .glo "_law_equal", .glo "_law_all_equal", .glo "_law_rule", .glo "_law_is_number", .glo "_law_is_name", .glo "_law_is_condition", .glo "_law_are_pairs", .glo "_law_is_step", .glo "_law_is_rule", .glo "_law_put", .glo "_law_place", .glo "_law_spoilt", .glo "_law_told", .glo "law", .free "bool", .free "int", .free "isinstance", .free "len", .free "list", .free "range", .free "set", .free "str", .free "tuple", .str "LETTERS" "abcdefghijklmnopqrstuvwxyz", .str "FIGURES" "0123456789", .int "LAST" (36500), .glo "WhatbefellError", .exc "WhatbefellError", .glo "BadForm", .exc "BadForm", .glo "BadWords", .exc "BadWords", .glo "BadTreaty", .exc "BadTreaty", .glo "BadRule", .exc "BadRule", .glo "BadArgument", .exc "BadArgument", .glo "TooLarge", .exc "TooLarge", .exm "WhatbefellError" "BadRule" false, .exm "BadForm" "BadRule" false, .exm "BadWords" "BadRule" false, .exm "BadTreaty" "BadRule" false, .exm "BadRule" "BadRule" true, .exm "BadArgument" "BadRule" false, .exm "TooLarge" "BadRule" false]
def fbl (K : PySem.W.Frag) : List Bool := [excB K "WhatbefellError", excB K "BadForm", excB K "BadWords", excB K "BadTreaty", excB K "BadRule", excB K "BadArgument", excB K "TooLarge", kitB K "WhatbefellError" "BadArgument" false, kitB K "BadForm" "BadArgument" false, kitB K "BadWords" "BadArgument" false, kitB K "BadTreaty" "BadArgument" false, kitB K "BadRule" "BadArgument" false, kitB K "BadArgument" "BadArgument" true, kitB K "TooLarge" "BadArgument" false, kitB K "WhatbefellError" "BadForm" false, kitB K "BadForm" "BadForm" true, kitB K "BadWords" "BadForm" false, kitB K "BadTreaty" "BadForm" false, kitB K "BadRule" "BadForm" false, kitB K "BadArgument" "BadForm" false, kitB K "TooLarge" "BadForm" false, kitB K "WhatbefellError" "BadTreaty" false, kitB K "BadForm" "BadTreaty" false, kitB K "BadWords" "BadTreaty" false, kitB K "BadTreaty" "BadTreaty" true, kitB K "BadRule" "BadTreaty" false, kitB K "BadArgument" "BadTreaty" false, kitB K "TooLarge" "BadTreaty" false, kitB K "WhatbefellError" "BadWords" false, kitB K "BadForm" "BadWords" false, kitB K "BadWords" "BadWords" true, kitB K "BadTreaty" "BadWords" false, kitB K "BadRule" "BadWords" false, kitB K "BadArgument" "BadWords" false, kitB K "TooLarge" "BadWords" false, kitB K "WhatbefellError" "TooLarge" false, kitB K "BadForm" "TooLarge" false, kitB K "BadWords" "TooLarge" false, kitB K "BadTreaty" "TooLarge" false, kitB K "BadRule" "TooLarge" false, kitB K "BadArgument" "TooLarge" false, kitB K "TooLarge" "TooLarge" true, kitB K "WhatbefellError" "WhatbefellError" true, kitB K "BadForm" "WhatbefellError" true, kitB K "BadWords" "WhatbefellError" true, kitB K "BadTreaty" "WhatbefellError" true, kitB K "BadRule" "WhatbefellError" true, kitB K "BadArgument" "WhatbefellError" true, kitB K "TooLarge" "WhatbefellError" true]
def fbn (K : PySem.W.Frag) : Bool := (fbl K).all id
theorem fbn_at {K : PySem.W.Frag} (h : fbn K = true) (i : Nat) {b : Bool} (e : (fbl K)[i]? = some b) : b = true := by
  unfold fbn at h
  rw [List.all_eq_true] at h
  exact h b (List.mem_of_getElem? e)
def fnn : List He.DefD := [dfd "is_number" st_is_number, dfd "is_name" st_is_name, dfd "is_day" st_is_day, dfd "is_tuple" st_is_tuple, dfd "are_unlike" st_are_unlike, dfd "are_names" st_are_names, dfd "conditions_in" st_conditions_in, dfd "is_condition" st_is_condition, dfd "are_few" st_are_few, dfd "is_timeless" st_is_timeless, dfd "are_pairs" st_are_pairs, dfd "is_step" st_is_step, dfd "is_rule" st_is_rule, dfd "check_rule" st_check_rule, dfd "_law_mixed" st__law_mixed, dfd "_law_numbers" st__law_numbers, dfd "_law_draw" st__law_draw, dfd "_law_equal" st__law_equal, dfd "_law_all_equal" st__law_all_equal, dfd "_law_rule" st__law_rule, dfd "_law_is_number" st__law_is_number, dfd "_law_is_name" st__law_is_name, dfd "_law_is_condition" st__law_is_condition, dfd "_law_are_pairs" st__law_are_pairs, dfd "_law_is_step" st__law_is_step, dfd "_law_is_rule" st__law_is_rule, dfd "_law_put" st__law_put, dfd "_law_place" st__law_place, dfd "_law_spoilt" st__law_spoilt, dfd "_law_told" st__law_told, dfd "law" st_law]
abbrev R : PySem.W.OpenRow := PySem.W.OpenLaw.row PySem.Challenge.rw_whatbefell_k50_rules_are_checked
def loo0 : List PySem.Str := ["WhatbefellError", "BadForm", "BadWords", "BadTreaty", "BadRule", "BadArgument", "TooLarge", "LETTERS", "FIGURES", "LAST", "is_number", "is_name", "is_day", "is_tuple", "are_unlike", "are_names", "conditions_in", "is_condition", "are_few", "is_timeless"]
def loo1 : List PySem.Str := ["are_pairs", "is_step", "is_rule", "check_rule", "_law_mixed", "_law_numbers", "_law_draw", "_law_equal", "_law_all_equal", "_law_rule", "_law_is_number", "_law_is_name", "_law_is_condition", "_law_are_pairs", "_law_is_step", "_law_is_rule", "_law_put", "_law_place", "_law_spoilt", "_law_told"]
def loo : List PySem.Str := loo0 ++ loo1
theorem run (w : World) : HandSHeadRun.RunEq R (PySem.W.view R.prog [45]) (hookL 5 fan fnn fbn) (obL 5 fan fnn fbn) 6000 loo w := by
  intro os
  kernel_rfl
theorem tx_of {K : PySem.W.Frag} {mg : PySem.Str → Option Value} {h : Heap} (X : K.In h) (G : h.Ns mainGlobals mg) (c : He.SaysD fan fnn K) (cb : fbn K = true) : Tx K mg where
  z_bool := He.free_ok X G (c.fact 31 rfl)
  z_int := He.free_ok X G (c.fact 32 rfl)
  z_isinstance := He.free_ok X G (c.fact 33 rfl)
  z_len := He.free_ok X G (c.fact 34 rfl)
  z_list := He.free_ok X G (c.fact 35 rfl)
  z_range := He.free_ok X G (c.fact 36 rfl)
  z_set := He.free_ok X G (c.fact 37 rfl)
  z_str := He.free_ok X G (c.fact 38 rfl)
  z_tuple := He.free_ok X G (c.fact 39 rfl)
  m_LETTERS := He.str_ok X G (c.fact 40 rfl)
  m_FIGURES := He.str_ok X G (c.fact 41 rfl)
  m_LAST := He.int_ok X G (c.fact 42 rfl)
  x_WhatbefellError := exf_of X G c 43 44 rfl rfl
  x_BadForm := exf_of X G c 45 46 rfl rfl
  x_BadWords := exf_of X G c 47 48 rfl rfl
  x_BadTreaty := exf_of X G c 49 50 rfl rfl
  x_BadRule := exf_of X G c 51 52 rfl rfl
  x_BadArgument := exf_of X G c 53 54 rfl rfl
  x_TooLarge := exf_of X G c 55 56 rfl rfl
  e_WhatbefellError := excB_ok (fbn_at cb 0 rfl)
  e_BadForm := excB_ok (fbn_at cb 1 rfl)
  e_BadWords := excB_ok (fbn_at cb 2 rfl)
  e_BadTreaty := excB_ok (fbn_at cb 3 rfl)
  e_BadRule := excB_ok (fbn_at cb 4 rfl)
  e_BadArgument := excB_ok (fbn_at cb 5 rfl)
  e_TooLarge := excB_ok (fbn_at cb 6 rfl)
  k_WhatbefellError_BadArgument := kitB_ok (fbn_at cb 7 rfl)
  k_BadForm_BadArgument := kitB_ok (fbn_at cb 8 rfl)
  k_BadWords_BadArgument := kitB_ok (fbn_at cb 9 rfl)
  k_BadTreaty_BadArgument := kitB_ok (fbn_at cb 10 rfl)
  k_BadRule_BadArgument := kitB_ok (fbn_at cb 11 rfl)
  k_BadArgument_BadArgument := kitB_ok (fbn_at cb 12 rfl)
  k_TooLarge_BadArgument := kitB_ok (fbn_at cb 13 rfl)
  k_WhatbefellError_BadForm := kitB_ok (fbn_at cb 14 rfl)
  k_BadForm_BadForm := kitB_ok (fbn_at cb 15 rfl)
  k_BadWords_BadForm := kitB_ok (fbn_at cb 16 rfl)
  k_BadTreaty_BadForm := kitB_ok (fbn_at cb 17 rfl)
  k_BadRule_BadForm := kitB_ok (fbn_at cb 18 rfl)
  k_BadArgument_BadForm := kitB_ok (fbn_at cb 19 rfl)
  k_TooLarge_BadForm := kitB_ok (fbn_at cb 20 rfl)
  k_WhatbefellError_BadTreaty := kitB_ok (fbn_at cb 21 rfl)
  k_BadForm_BadTreaty := kitB_ok (fbn_at cb 22 rfl)
  k_BadWords_BadTreaty := kitB_ok (fbn_at cb 23 rfl)
  k_BadTreaty_BadTreaty := kitB_ok (fbn_at cb 24 rfl)
  k_BadRule_BadTreaty := kitB_ok (fbn_at cb 25 rfl)
  k_BadArgument_BadTreaty := kitB_ok (fbn_at cb 26 rfl)
  k_TooLarge_BadTreaty := kitB_ok (fbn_at cb 27 rfl)
  k_WhatbefellError_BadWords := kitB_ok (fbn_at cb 28 rfl)
  k_BadForm_BadWords := kitB_ok (fbn_at cb 29 rfl)
  k_BadWords_BadWords := kitB_ok (fbn_at cb 30 rfl)
  k_BadTreaty_BadWords := kitB_ok (fbn_at cb 31 rfl)
  k_BadRule_BadWords := kitB_ok (fbn_at cb 32 rfl)
  k_BadArgument_BadWords := kitB_ok (fbn_at cb 33 rfl)
  k_TooLarge_BadWords := kitB_ok (fbn_at cb 34 rfl)
  k_WhatbefellError_TooLarge := kitB_ok (fbn_at cb 35 rfl)
  k_BadForm_TooLarge := kitB_ok (fbn_at cb 36 rfl)
  k_BadWords_TooLarge := kitB_ok (fbn_at cb 37 rfl)
  k_BadTreaty_TooLarge := kitB_ok (fbn_at cb 38 rfl)
  k_BadRule_TooLarge := kitB_ok (fbn_at cb 39 rfl)
  k_BadArgument_TooLarge := kitB_ok (fbn_at cb 40 rfl)
  k_TooLarge_TooLarge := kitB_ok (fbn_at cb 41 rfl)
  k_WhatbefellError_WhatbefellError := kitB_ok (fbn_at cb 42 rfl)
  k_BadForm_WhatbefellError := kitB_ok (fbn_at cb 43 rfl)
  k_BadWords_WhatbefellError := kitB_ok (fbn_at cb 44 rfl)
  k_BadTreaty_WhatbefellError := kitB_ok (fbn_at cb 45 rfl)
  k_BadRule_WhatbefellError := kitB_ok (fbn_at cb 46 rfl)
  k_BadArgument_WhatbefellError := kitB_ok (fbn_at cb 47 rfl)
  k_TooLarge_WhatbefellError := kitB_ok (fbn_at cb 48 rfl)
  s_WhatbefellError_BadRule := He.exm_ok (c.fact 57 rfl)
  s_BadForm_BadRule := He.exm_ok (c.fact 58 rfl)
  s_BadWords_BadRule := He.exm_ok (c.fact 59 rfl)
  s_BadTreaty_BadRule := He.exm_ok (c.fact 60 rfl)
  s_BadRule_BadRule := He.exm_ok (c.fact 61 rfl)
  s_BadArgument_BadRule := He.exm_ok (c.fact 62 rfl)
  s_TooLarge_BadRule := He.exm_ok (c.fact 63 rfl)
  d_is_number := dfn_of X G c 0 0 rfl rfl fun _ _ _ _ _ _ us hl => match us, hl with | [_, _, _], _ => rfl
  d_is_name := dfn_of X G c 1 1 rfl rfl fun _ _ _ _ _ _ us hl => match us, hl with | [_], _ => rfl
  d_is_day := dfn_of X G c 2 2 rfl rfl fun _ _ _ _ _ _ us hl => match us, hl with | [_], _ => rfl
  d_is_tuple := dfn_of X G c 3 3 rfl rfl fun _ _ _ _ _ _ us hl => match us, hl with | [_, _, _], _ => rfl
  d_are_unlike := dfn_of X G c 4 4 rfl rfl fun _ _ _ _ _ _ us hl => match us, hl with | [_], _ => rfl
  d_are_names := dfn_of X G c 5 5 rfl rfl fun _ _ _ _ _ _ us hl => match us, hl with | [_], _ => rfl
  d_conditions_in := dfn_of X G c 6 6 rfl rfl fun _ _ _ _ _ _ us hl => match us, hl with | [_], _ => rfl
  d_is_condition := dfn_of X G c 7 7 rfl rfl fun _ _ _ _ _ _ us hl => match us, hl with | [_], _ => rfl
  d_are_few := dfn_of X G c 8 8 rfl rfl fun _ _ _ _ _ _ us hl => match us, hl with | [_, _], _ => rfl
  d_is_timeless := dfn_of X G c 9 9 rfl rfl fun _ _ _ _ _ _ us hl => match us, hl with | [_], _ => rfl
  d_are_pairs := dfn_of X G c 10 10 rfl rfl fun _ _ _ _ _ _ us hl => match us, hl with | [_, _, _], _ => rfl
  d_is_step := dfn_of X G c 11 11 rfl rfl fun _ _ _ _ _ _ us hl => match us, hl with | [_, _, _, _], _ => rfl
  d_is_rule := dfn_of X G c 12 12 rfl rfl fun _ _ _ _ _ _ us hl => match us, hl with | [_], _ => rfl
  d_check_rule := dfn_of X G c 13 13 rfl rfl fun _ _ _ _ _ _ us hl => match us, hl with | [_], _ => rfl
  d__law_mixed := dfn_of X G c 14 14 rfl rfl fun _ _ _ _ _ _ us hl => match us, hl with | [_, _], _ => rfl
  d__law_numbers := dfn_of X G c 15 15 rfl rfl fun _ _ _ _ _ _ us hl => match us, hl with | [_], _ => rfl
  d__law_draw := dfn_of X G c 16 16 rfl rfl fun _ _ _ _ _ _ us hl => match us, hl with | [_], _ => rfl
  d__law_equal := dfn_of X G c 17 17 rfl rfl fun _ _ _ _ _ _ us hl => match us, hl with | [_, _], _ => rfl
  d__law_all_equal := dfn_of X G c 18 18 rfl rfl fun _ _ _ _ _ _ us hl => match us, hl with | [_, _], _ => rfl
  d__law_rule := dfn_of X G c 19 19 rfl rfl fun _ _ _ _ _ _ us hl => match us, hl with | [_], _ => rfl
  d__law_is_number := dfn_of X G c 20 20 rfl rfl fun _ _ _ _ _ _ us hl => match us, hl with | [_, _, _], _ => rfl
  d__law_is_name := dfn_of X G c 21 21 rfl rfl fun _ _ _ _ _ _ us hl => match us, hl with | [_], _ => rfl
  d__law_is_condition := dfn_of X G c 22 22 rfl rfl fun _ _ _ _ _ _ us hl => match us, hl with | [_], _ => rfl
  d__law_are_pairs := dfn_of X G c 23 23 rfl rfl fun _ _ _ _ _ _ us hl => match us, hl with | [_, _, _], _ => rfl
  d__law_is_step := dfn_of X G c 24 24 rfl rfl fun _ _ _ _ _ _ us hl => match us, hl with | [_, _, _, _], _ => rfl
  d__law_is_rule := dfn_of X G c 25 25 rfl rfl fun _ _ _ _ _ _ us hl => match us, hl with | [_], _ => rfl
  d__law_put := dfn_of X G c 26 26 rfl rfl fun _ _ _ _ _ _ us hl => match us, hl with | [_, _, _], _ => rfl
  d__law_place := dfn_of X G c 27 27 rfl rfl fun _ _ _ _ _ _ us hl => match us, hl with | [_, _], _ => rfl
  d__law_spoilt := dfn_of X G c 28 28 rfl rfl fun _ _ _ _ _ _ us hl => match us, hl with | [_, _], _ => rfl
  d__law_told := dfn_of X G c 29 29 rfl rfl fun _ _ _ _ _ _ us hl => match us, hl with | [_], _ => rfl
  d_law := dfn_of X G c 30 30 rfl rfl fun _ _ _ _ _ _ us hl => match us, hl with | [_], _ => rfl
end Law
open PySem PySem.W PySem.Calls PyProof.Rows
set_option maxHeartbeats 0 in
theorem PySem.Challenge.cw_whatbefell_k50_rules_are_checked_holds : PySem.Challenge.rw_whatbefell_k50_rules_are_checked.Holds := by
  w_on; o_law
  refine HandSHeadRun.head_any (r := OpenLaw.row PySem.Challenge.rw_whatbefell_k50_rules_are_checked) (q := view (OpenLaw.row PySem.Challenge.rw_whatbefell_k50_rules_are_checked).prog [45]) (H := Dn.hookL 5 Law.fan Law.fnn Law.fbn) (ob := Dn.obL 5 Law.fan Law.fnn Law.fbn) (M := 6000) (loose := Law.loo) (d := HandSHeadRun.topDef (OpenLaw.row PySem.Challenge.rw_whatbefell_k50_rules_are_checked).prog 45) (kwd := []) (Dn.obL_eq 5 Law.fan Law.fnn Law.fbn)
    (by kernel_rfl) (fun s => by kernel_rfl) Law.run (by kernel_rfl) (by kernel_rfl) (by kernel_rfl) (by rfl) (by first | assumption | decide +kernel) (by decide +kernel) ⟨rfl, rfl, rfl, rfl, rfl, by decide +kernel⟩ ?hw ?hc
  case hw => w_witness2
  case hc =>
    refine Dn.law_end (l := PySem.Challenge.rw_whatbefell_k50_rules_are_checked) (n := 63) (k := 16) (x := "script") (F := fun K => Law.F_law K) rfl (by decide) (by kernel_rfl) ⟨rfl, by decide, by decide⟩ ?_ (fun K ns h => Law.law_true K ns h)
    intro w mg h K X c cb G
    have T : Law.Tx K mg := Law.tx_of X G c cb
    have e : (HandSHeadRun.topDef (OpenLaw.row PySem.Challenge.rw_whatbefell_k50_rules_are_checked).prog 45).name = ("law" : PySem.Str) := by kernel_rfl
    rw [e]
    obtain ⟨fd, F⟩ := c.def_ 30 (d := Dn.dfd "law" Law.st_law) rfl
    have b := L2.FunD.bindsA (ps := ["script"]) F fun _ _ _ _ _ _ us hl => match us, hl with | [_], _ => rfl
    refine ⟨fd, T.d_law.g, fun s v => b s [v] rfl, fun base _ _ => ?_⟩
    exact Law.law_fn T F
