import PyProof.Rows.All
import Wide.All
import OpenK.AllK
import Wide.FinOn
import HandS.ForMost
import HandS.ForExc
import HandS.IsInst
import HandS.Flow
import HandS.Wide
import HandS.Evl
import HandS.TupAny
import HandS.Deep
import HandS.CallLocal
import HandS.Rev
import HandS.Defaults
import HandS.Exc
import HandS.ExcOwn
import HandS.TryOnly
import HandS.WordsExc
import KE.KStateDown
import HandS.Head0
import HandS.Head1
import HandS.Head2
import HandS.HeadEnd
import HandS.HeadHook1
import HandS.HeadHook2
import HandS.HeadHook4
import PySem.Challenge.RW_whatbefell_k08_pays_are_reckoned
set_option Elab.async false
set_option linter.all false
set_option maxRecDepth 100000
set_option maxHeartbeats 1000000
/-! Dn1: a def's body as a shallow Lean function over data and a small store: the relation, the judgements. -/
namespace Dn
open PySem L2

abbrev D := PyData
abbrev Ex (H H' : Hp) : Prop := ∀ a o, H a = some o → H' a = some o

/-- a slot: nothing, data, a cell of the store, a def -/
inductive S where
  | no
  | d (x : D)
  | cel (j : Nat)
  | fn (a : Addr)
/-- what a cell holds -/
inductive OC where
  | lst (xs : List D)
  | dK (kvs : List (Key × D))
/-- a result: data, a new object, a cell -/
inductive Rv where
  | d (x : D)
  | own (o : OC)
  | cel (j : Nat)
abbrev Store := List OC
inductive Res (α : Type) where
  | ok (a : α) (cs : Store)
  | er (c : Str) (cs : Store)
  | no
abbrev M (α : Type) := Store → Res α
section
variable {α β : Type}
def ret (a : α) : M α := fun cs => .ok a cs
def stuck : M α := fun _ => .no
def bnd (m : M α) (k : α → M β) : M β := fun cs => match m cs with
  | .ok a cs' => k a cs'
  | .er c cs' => .er c cs'
  | .no => .no
def ofO : Option α → M α
  | some a => ret a
  | none => stuck
theorem bnd_ok {m : M α} {k : α → M β} {cs cs' : Store} {a : α} (h : m cs = .ok a cs') : bnd m k cs = k a cs' := by
  unfold bnd; rw [h]
theorem bnd_ret {a : α} {k : α → M β} : bnd (ret a) k = k a := rfl
end

/-! ### data in the heap -/
mutual
inductive Dd (H : Hp) : V → D → Prop
  | non : Dd H .non .none
  | bl (b : Bool) : Dd H (.bl b) (.bool b)
  | int (i : Int) : Dd H (.int i) (.int i)
  | str (x : Str) : Dd H (.str x) (.str x)
  | lst {a : Addr} {xs : List V} {ds : List D} : Rd H a (.lst xs) → Dds H xs ds → Dd H (.ref a) (.list ds)
  | tup {a : Addr} {xs : List V} {ds : List D} : Rd H a (.tup xs) → Dds H xs ds → Dd H (.ref a) (.tuple ds)
inductive Dds (H : Hp) : List V → List D → Prop
  | nil : Dds H [] []
  | cons {v : V} {vs : List V} {d : D} {ds : List D} : Dd H v d → Dds H vs ds → Dds H (v :: vs) (d :: ds)
end
theorem rd_ex {H H' : Hp} (e : Ex H H') {a : Addr} {u : HO} (h : Rd H a u) : Rd H' a u := by
  rcases h with h | ⟨o, h⟩
  · exact .inl (e a _ h)
  · exact .inr ⟨o, e a _ h⟩
mutual
theorem dp_ex {H H' : Hp} (e : Ex H H') : ∀ {v : V} {d : D}, Dd H v d → Dd H' v d
  | _, _, .non => .non
  | _, _, .bl b => .bl b
  | _, _, .int i => .int i
  | _, _, .str x => .str x
  | _, _, .lst h a => .lst (rd_ex e h) (dps_ex e a)
  | _, _, .tup h a => .tup (rd_ex e h) (dps_ex e a)
theorem dps_ex {H H' : Hp} (e : Ex H H') : ∀ {vs : List V} {ds : List D}, Dds H vs ds → Dds H' vs ds
  | _, _, .nil => .nil
  | _, _, .cons h t => .cons (dp_ex e h) (dps_ex e t)
end
mutual
theorem dd_dp (K : PySem.W.Frag) {H : Hp} : ∀ {v : V} {d : D}, Dd H v d → Dp K H v d
  | _, _, .non => .non
  | _, _, .bl b => .bl b
  | _, _, .int i => .int i
  | _, _, .str x => .str x
  | _, _, .lst h a => .lst (.inl h) (dds_dp K a)
  | _, _, .tup h a => .tup (.inl h) (dds_dp K a)
theorem dds_dp (K : PySem.W.Frag) {H : Hp} : ∀ {vs : List V} {ds : List D}, Dds H vs ds → DpAll K H vs ds
  | _, _, .nil => .nil
  | _, _, .cons h t => .cons (dd_dp K h) (dds_dp K t)
end
section
variable {H H' Hf : Hp} {vs ws : List V} {ds es : List D} {v : V} {d : D}
theorem dps_len : ∀ {vs : List V} {ds : List D}, Dds H vs ds → vs.length = ds.length
  | _, _, .nil => rfl
  | _, _, .cons _ t => by rw [List.length_cons, List.length_cons, dps_len t]
theorem dps_get : ∀ {vs : List V} {ds : List D} {i : Nat} {d : D}, Dds H vs ds → ds[i]? = some d → ∃ v, vs[i]? = some v ∧ Dd H v d
  | _, _, _, _, .nil, e => by simp at e
  | _, _, 0, _, .cons h _, e => by simp at e; subst e; exact ⟨_, rfl, h⟩
  | _, _, i + 1, _, .cons _ t, e => by
    obtain ⟨v, h1, h2⟩ := dps_get (i := i) t (by simpa using e)
    exact ⟨v, by simpa using h1, h2⟩
theorem dps_get' : ∀ {vs : List V} {ds : List D} {i : Nat} {v : V}, Dds H vs ds → vs[i]? = some v → ∃ d, ds[i]? = some d ∧ Dd H v d
  | _, _, _, _, .nil, e => by simp at e
  | _, _, 0, _, .cons h _, e => by simp at e; subst e; exact ⟨_, rfl, h⟩
  | _, _, i + 1, _, .cons _ t, e => by
    obtain ⟨v, h1, h2⟩ := dps_get' (i := i) t (by simpa using e)
    exact ⟨v, by simpa using h1, h2⟩
theorem dps_app : ∀ {vs ws : List V} {ds es : List D}, Dds H vs ds → Dds H ws es → Dds H (vs ++ ws) (ds ++ es)
  | _, _, _, _, .nil, s => s
  | _, _, _, _, .cons h t, s => .cons h (dps_app t s)
theorem dps_take : ∀ (n : Nat) {vs : List V} {ds : List D}, Dds H vs ds → Dds H (vs.take n) (ds.take n)
  | 0, _, _, _ => .nil
  | _ + 1, _, _, .nil => .nil
  | n + 1, _, _, .cons h t => .cons h (dps_take n t)
theorem dps_drop : ∀ (n : Nat) {vs : List V} {ds : List D}, Dds H vs ds → Dds H (vs.drop n) (ds.drop n)
  | 0, _, _, h => h
  | _ + 1, _, _, .nil => .nil
  | n + 1, _, _, .cons _ t => dps_drop n t
theorem dps_set : ∀ {vs : List V} {ds : List D} {v : V} {d : D} (i : Nat), Dds H vs ds → Dd H v d → Dds H (vs.set i v) (ds.set i d)
  | _, _, _, _, _, .nil, _ => .nil
  | _, _, _, _, 0, .cons _ t, h => .cons h t
  | _, _, _, _, i + 1, .cons h' t, h => .cons h' (dps_set i t h)
theorem dps_dropLast (h : Dds H vs ds) : Dds H vs.dropLast ds.dropLast := by
  rw [List.dropLast_eq_take, List.dropLast_eq_take, dps_len h]
  exact dps_take _ h
end

/-- the content of a cell at a -/
def CellOk (Hf H : Hp) (a : Addr) : OC → Prop
  | .lst xs => ∃ vs, H a = some (.lst vs) ∧ Dds Hf vs xs
  | .dK kvs => ∃ ws, H a = some (.dK ws) ∧ Paired (fun (p : Key × V) (q : Key × D) => p.1 = q.1 ∧ Dd Hf p.2 q.2) ws kvs
def SvOk (ca : List Addr) (Hf : Hp) : S → V → Prop
  | .no, _ => False
  | .d x, v => Dd Hf v x
  | .cel j, v => ∃ a, ca[j]? = some a ∧ v = .ref a
  | .fn a, v => v = .ref a
/-- B: what is banned: the callers' things that are not ours -/
def RvOk (B : Hp) (ca : List Addr) (Hf H : Hp) : Rv → V → Prop
  | .d x, v => Dd Hf v x
  | .own o, v => ∃ a, v = .ref a ∧ CellOk Hf H a o ∧ Hf a = none ∧ a ∉ ca ∧ B a = none
  | .cel j, v => ∃ a, ca[j]? = some a ∧ v = .ref a
inductive SvsOk (ca : List Addr) (Hf : Hp) : List S → List V → Prop
  | nil : SvsOk ca Hf [] []
  | cons {s : S} {ss : List S} {v : V} {vs : List V} : SvOk ca Hf s v → SvsOk ca Hf ss vs → SvsOk ca Hf (s :: ss) (v :: vs)

structure Rel (B : Hp) (ca : List Addr) (ρ : List S) (cs : Store) (Hf : Hp) (σ : L2.St) (H : Hp) : Prop where
  ext : Ex Hf H
  len : σ.length = ρ.length
  sl : ∀ (i : Nat) (s : S), ρ[i]? = some s → s = .no ∨ ∃ v, σ[i]? = some (some v) ∧ SvOk ca Hf s v
  cells : ∀ (j : Nat) (o : OC), cs[j]? = some o → ∃ a, ca[j]? = some a ∧ CellOk Hf H a o
  lenc : ca.length = cs.length
  nd : ca.Nodup
  off : ∀ a ∈ ca, Hf a = none
  exb : Ex B H
  dis : ∀ a, B a ≠ none → Hf a = none ∧ a ∉ ca

structure Nx (ca : List Addr) (Hf : Hp) (ca' : List Addr) (Hf' : Hp) : Prop where
  pre : ca <+: ca'
  ex : Ex Hf Hf'
section
variable {B : Hp} {ca ca' ca'' : List Addr} {ρ : List S} {cs cs' : Store} {Hf Hf' Hf'' : Hp} {σ : L2.St} {H H' H'' : Hp} {s : S} {v : V} {r : Rv} {a : Addr} {o : OC}
theorem CellOk.some (h : CellOk Hf H a o) : H a ≠ none := by
  cases o with
  | lst xs => obtain ⟨vs, e, _⟩ := h; rw [e]; simp
  | dK kvs => obtain ⟨vs, e, _⟩ := h; rw [e]; simp
theorem CellOk.at (h : CellOk Hf H a o) (e : H' a = H a) (x : Ex Hf Hf') : CellOk Hf' H' a o := by
  cases o with
  | lst xs => obtain ⟨vs, q, p⟩ := h; exact ⟨vs, e.trans q, dps_ex x p⟩
  | dK kvs => obtain ⟨vs, q, p⟩ := h; exact ⟨vs, e.trans q, Paired.mapP p fun _ _ z => ⟨z.1, dp_ex x z.2⟩⟩
theorem Rel.there (r : Rel B ca ρ cs Hf σ H) (ha : a ∈ ca) : H a ≠ none := by
  obtain ⟨j, hj, e⟩ := List.mem_iff_getElem.mp ha
  have hj' : j < cs.length := by rw [← r.lenc]; exact hj
  obtain ⟨b, h1, h2⟩ := r.cells j cs[j] (by simp [hj'])
  have : b = a := by
    rw [List.getElem?_eq_getElem hj] at h1
    rw [← e]; exact (Option.some.inj h1).symm
  subst this
  exact h2.some
theorem Nx.refl : Nx ca Hf ca Hf := ⟨List.prefix_refl _, fun _ _ h => h⟩
theorem Nx.trans (x : Nx ca Hf ca' Hf') (y : Nx ca' Hf' ca'' Hf'') : Nx ca Hf ca'' Hf'' := ⟨x.pre.trans y.pre, fun a o h => y.ex a o (x.ex a o h)⟩
theorem SvOk.nx (h : SvOk ca Hf s v) (x : Nx ca Hf ca' Hf') : SvOk ca' Hf' s v := by
  cases s with
  | no => exact h
  | d d => exact dp_ex x.ex h
  | fn a => exact h
  | cel j =>
    obtain ⟨a, e, z⟩ := h
    exact ⟨a, by
      obtain ⟨t, rfl⟩ := x.pre
      rw [List.getElem?_append_left (List.getElem?_eq_some_iff.mp e).1]
      exact e, z⟩
theorem SvsOk.nx {ss : List S} {vs : List V} (h : SvsOk ca Hf ss vs) (x : Nx ca Hf ca' Hf') : SvsOk ca' Hf' ss vs := by
  induction h with
  | nil => exact .nil
  | cons h _ ih => exact .cons (h.nx x) ih
theorem SvsOk.len {ss : List S} {vs : List V} (h : SvsOk ca Hf ss vs) : ss.length = vs.length := by
  induction h with
  | nil => rfl
  | cons _ _ ih => simp [ih]
theorem SvsOk.get {ss : List S} {vs : List V} (h : SvsOk ca Hf ss vs) {i : Nat} {s : S} (e : ss[i]? = some s) : ∃ v, vs[i]? = some v ∧ SvOk ca Hf s v := by
  induction h generalizing i with
  | nil => simp at e
  | cons h _ ih =>
    cases i with
    | zero => simp at e; subst e; exact ⟨_, rfl, h⟩
    | succ i =>
      obtain ⟨v, h1, h2⟩ := ih (i := i) (by simpa using e)
      exact ⟨v, by simpa using h1, h2⟩
/-- slots of another kind over the same heap -/
theorem Rel.slots {ρ' : List S} {σ' : L2.St} (r : Rel B ca ρ cs Hf σ H) (hl : σ'.length = ρ'.length) (h : ∀ (i : Nat) (s : S), ρ'[i]? = some s → s = .no ∨ ∃ v, σ'[i]? = some (some v) ∧ SvOk ca Hf s v) : Rel B ca ρ' cs Hf σ' H :=
  ⟨r.ext, hl, h, r.cells, r.lenc, r.nd, r.off, r.exb, r.dis⟩
/-- the slots of an earlier state -/
theorem Rel.back {ρ' : List S} {σ' : L2.St} {cs0 : Store} (r0 : Rel B ca ρ' cs0 Hf σ' H) (x : Nx ca Hf ca' Hf') (r : Rel B ca' ρ cs' Hf' σ H') : Rel B ca' ρ' cs' Hf' σ' H' :=
  r.slots r0.len fun i s e => by
    rcases r0.sl i s e with z | ⟨v, h1, h2⟩
    · exact .inl z
    · exact .inr ⟨v, h1, h2.nx x⟩
theorem Rel.get (r : Rel B ca ρ cs Hf σ H) {i : Nat} {s : S} (e : ρ[i]? = some s) (n : s ≠ .no) : ∃ v, σ[i]? = some (some v) ∧ SvOk ca Hf s v := by
  rcases r.sl i s e with z | z
  · exact absurd z n
  · exact z
theorem Rel.set (r : Rel B ca ρ cs Hf σ H) (i : Nat) (h : SvOk ca Hf s v) : Rel B ca (ρ.set i s) cs Hf (σ.set i (some v)) H :=
  r.slots (by simp [r.len]) fun j t e => by
    by_cases hj : i = j
    · subst hj
      by_cases hi : i < ρ.length
      · rw [List.getElem?_set_self hi] at e
        cases e
        exact .inr ⟨v, List.getElem?_set_self (by rw [r.len]; exact hi), h⟩
      · rw [List.getElem?_eq_none (by simpa using hi)] at e; cases e
    · rw [List.getElem?_set_ne hj] at e
      rcases r.sl j t e with z | ⟨w, h1, h2⟩
      · exact .inl z
      · exact .inr ⟨w, by rw [List.getElem?_set_ne hj]; exact h1, h2⟩
/-- a slot forgotten -/
theorem Rel.lose (r : Rel B ca ρ cs Hf σ H) (i : Nat) (x : Option V) : Rel B ca (ρ.set i .no) cs Hf (σ.set i x) H :=
  r.slots (by simp [r.len]) fun j t e => by
    by_cases hj : i = j
    · subst hj
      by_cases hi : i < ρ.length
      · rw [List.getElem?_set_self hi] at e; cases e; exact .inl rfl
      · rw [List.getElem?_eq_none (by simpa using hi)] at e; cases e
    · rw [List.getElem?_set_ne hj] at e
      rcases r.sl j t e with z | ⟨w, h1, h2⟩
      · exact .inl z
      · exact .inr ⟨w, by rw [List.getElem?_set_ne hj]; exact h1, h2⟩
/-- an object of the heap is frozen -/
theorem Rel.freeze {o : HO} {p : Addr} (r : Rel B ca ρ cs Hf σ H) (hp : H p = some o) (n : Hf p = none) (hc : p ∉ ca) (hb : B p = none) : Rel B ca ρ cs (upd Hf p o) σ H ∧ Ex Hf (upd Hf p o) := by
  have e : Ex Hf (upd Hf p o) := fun a u h => by
    by_cases q : a = p
    · subst q; rw [n] at h; cases h
    · rw [upd_ne q]; exact h
  refine ⟨⟨fun a u h => ?_, r.len, fun i s q => ?_, fun j u q => ?_, r.lenc, r.nd, fun a m => ?_, r.exb, fun a m => ?_⟩, e⟩
  · by_cases q : a = p
    · subst q; rw [upd_same] at h; cases h; exact hp
    · rw [upd_ne q] at h; exact r.ext a u h
  · rcases r.sl i s q with z | ⟨v, h1, h2⟩
    · exact .inl z
    · exact .inr ⟨v, h1, h2.nx ⟨List.prefix_refl _, e⟩⟩
  · obtain ⟨a, h1, h2⟩ := r.cells j u q
    exact ⟨a, h1, h2.at rfl e⟩
  · rw [upd_ne (fun (z : a = p) => hc (z ▸ m))]; exact r.off a m
  · obtain ⟨h1, h2⟩ := r.dis a m
    exact ⟨by rw [upd_ne (fun (z : a = p) => m (z ▸ hb))]; exact h1, h2⟩
theorem Rel.newIn (r : Rel B ca ρ cs Hf σ H) {p : Addr} (hp : H p = none) : Hf p = none ∧ p ∉ ca ∧ B p = none := by
  refine ⟨?_, fun m => r.there m hp, ?_⟩
  · cases q : Hf p with
    | none => rfl
    | some u => rw [r.ext p u q] at hp; cases hp
  · cases q : B p with
    | none => rfl
    | some u => rw [r.exb p u q] at hp; cases hp
/-- the heap grows -/
theorem Rel.grow (r : Rel B ca ρ cs Hf σ H) (e : Ex H H') : Rel B ca ρ cs Hf σ H' :=
  ⟨fun a u h => e a u (r.ext a u h), r.len, r.sl, fun j u q => by
    obtain ⟨a, h1, h2⟩ := r.cells j u q
    refine ⟨a, h1, h2.at ?_ fun _ _ h => h⟩
    cases z : H a with
    | none => exact absurd z h2.some
    | some w => exact e a w z, r.lenc, r.nd, r.off, fun a u h => e a u (r.exb a u h), r.dis⟩
theorem ex_new {o : HO} {p : Addr} (hp : H p = none) : Ex H (upd H p o) := fun a u h => by rw [upd_ne (ne_of_none h hp)]; exact h
/-- a new object, frozen -/
theorem Rel.news {o : HO} {p : Addr} (r : Rel B ca ρ cs Hf σ H) (hp : H p = none) : Rel B ca ρ cs (upd Hf p o) σ (upd H p o) ∧ Nx ca Hf ca (upd Hf p o) := by
  obtain ⟨n1, n2, n3⟩ := r.newIn hp
  obtain ⟨r2, e2⟩ := (r.grow (ex_new (o := o) hp)).freeze (p := p) (o := o) upd_same n1 n2 n3
  exact ⟨r2, List.prefix_refl _, e2⟩
/-- an own object is frozen -/
theorem Rel.own {xs : List D} (r : Rel B ca ρ cs Hf σ H) (h : RvOk B ca Hf H (.own (.lst xs)) v) : ∃ Hf', Rel B ca ρ cs Hf' σ H ∧ Nx ca Hf ca Hf' ∧ Dd Hf' v (.list xs) := by
  obtain ⟨a, rfl, ⟨vs, h1, h2⟩, h3, h4, h5⟩ := h
  obtain ⟨r', e⟩ := r.freeze h1 h3 h4 h5
  exact ⟨_, r', ⟨List.prefix_refl _, e⟩, .lst (.inl upd_same) (dps_ex e h2)⟩
/-- an own object becomes a cell -/
theorem Rel.alloc (r : Rel B ca ρ cs Hf σ H) (h : RvOk B ca Hf H (.own o) v) : ∃ a, v = .ref a ∧ Rel B (ca ++ [a]) ρ (cs ++ [o]) Hf σ H ∧ (ca ++ [a])[cs.length]? = some a := by
  obtain ⟨a, rfl, h1, h2, h3, h4⟩ := h
  refine ⟨a, rfl, ⟨r.ext, r.len, fun i s q => ?_, fun j u q => ?_, by simp [r.lenc], ?_, fun b m => ?_, r.exb, fun b m => ?_⟩, by rw [← r.lenc]; simp⟩
  · rcases r.sl i s q with z | ⟨v, g1, g2⟩
    · exact .inl z
    · exact .inr ⟨v, g1, g2.nx ⟨List.prefix_append _ _, fun _ _ h => h⟩⟩
  · by_cases hj : j < cs.length
    · rw [List.getElem?_append_left hj] at q
      obtain ⟨b, g1, g2⟩ := r.cells j u q
      exact ⟨b, by rw [List.getElem?_append_left (by rw [r.lenc]; exact hj)]; exact g1, g2⟩
    · have hj2 : j = cs.length := by
        have := (List.getElem?_eq_some_iff.mp q).1
        simp at this; omega
      subst hj2
      simp at q; subst q
      exact ⟨a, by rw [← r.lenc]; simp, h1⟩
  · rw [List.nodup_append]
    refine ⟨r.nd, by simp, fun x hx y hy => ?_⟩
    simp at hy; subst hy
    exact fun z => h3 (z ▸ hx)
  · rcases List.mem_append.mp m with z | z
    · exact r.off b z
    · simp at z; subst z; exact h2
  · obtain ⟨g1, g2⟩ := r.dis b m
    refine ⟨g1, fun q => ?_⟩
    rcases List.mem_append.mp q with z | z
    · exact g2 z
    · simp at z; subst z; exact m h4
/-- a cell is written -/
theorem Rel.write {j : Nat} {u : HO} (r : Rel B ca ρ cs Hf σ H) (hj : ca[j]? = some a) (h : CellOk Hf (upd H a u) a o) : Rel B ca ρ (cs.set j o) Hf σ (upd H a u) := by
  have ma : a ∈ ca := List.mem_of_getElem? hj
  refine ⟨fun b w q => ?_, r.len, r.sl, fun i w q => ?_, by simp [r.lenc], r.nd, r.off, fun b w q => ?_, r.dis⟩
  · by_cases e : b = a
    · subst e; rw [r.off b ma] at q; cases q
    · rw [upd_ne e]; exact r.ext b w q
  · by_cases e : j = i
    · subst e
      have hi : j < cs.length := by rw [← r.lenc]; exact (List.getElem?_eq_some_iff.mp hj).1
      rw [List.getElem?_set_self hi] at q
      cases q
      exact ⟨a, hj, h⟩
    · rw [List.getElem?_set_ne e] at q
      obtain ⟨b, g1, g2⟩ := r.cells i w q
      refine ⟨b, g1, g2.at (upd_ne ?_) fun _ _ h => h⟩
      intro z
      subst z
      exact e (nd_ix r.nd hj g1)
  · by_cases e : b = a
    · subst e
      exact absurd ma (r.dis b (by rw [q]; simp)).2
    · rw [upd_ne e]; exact r.exb b w q
theorem Rel.cell (r : Rel B ca ρ cs Hf σ H) {j : Nat} (e : cs[j]? = some o) (h : ca[j]? = some a) : CellOk Hf H a o := by
  obtain ⟨b, g1, g2⟩ := r.cells j o e
  rw [h] at g1; cases g1; exact g2
end

/-! ### what is wanted of an expression's result -/
section
variable (X : Cx) (W : WX)
def Gs {α : Type} (B : Hp) (ca : List Addr) (Hf : Hp) (ρ : List S) (σ : L2.St) (res : Res α) (P : List Addr → Hp → Hp → Store → α → Prop) : Prop :=
  match res with
  | .ok a cs' => ∀ ca' Hf' H', Nx ca Hf ca' Hf' → Rel B ca' ρ cs' Hf' σ H' → P ca' Hf' H' cs' a
  | .er c cs' => ∀ ca' Hf' H' cls, Nx ca Hf ca' Hf' → Rel B ca' ρ cs' Hf' σ H' → X.mg c = some cls → W cls none σ H'
  | .no => False
/-- an expression -/
def DE (e : Expr) (f : List S → M S) : Prop := ∃ t : TE, PE X e t ∧ ∀ (B : Hp) (ca : List Addr) (ρ : List S) (cs : Store) (Hf : Hp) (σ : L2.St) (H : Hp) (Q : VK), Rel B ca ρ cs Hf σ H →
  Gs X W B ca Hf ρ σ (f ρ cs) (fun ca' Hf' H' _ s => ∀ v, SvOk ca' Hf' s v → Q v H') → t σ H Q
/-- an expression whose value may be a new object -/
def DO (e : Expr) (f : List S → M Rv) : Prop := ∃ t : TE, PE X e t ∧ ∀ (B : Hp) (ca : List Addr) (ρ : List S) (cs : Store) (Hf : Hp) (σ : L2.St) (H : Hp) (Q : VK), Rel B ca ρ cs Hf σ H →
  Gs X W B ca Hf ρ σ (f ρ cs) (fun ca' Hf' H' _ r => ∀ v, RvOk B ca' Hf' H' r v → Q v H') → t σ H Q
def DT (e : Expr) (f : List S → M Bool) : Prop := ∃ t : TT, PT X e t ∧ ∀ (B : Hp) (ca : List Addr) (ρ : List S) (cs : Store) (Hf : Hp) (σ : L2.St) (H : Hp) (Q : Bool → Hp → Prop), Rel B ca ρ cs Hf σ H →
  Gs X W B ca Hf ρ σ (f ρ cs) (fun _ _ H' _ b => Q b H') → t σ H Q
def DW (e : Expr) (f : List S → M Bool) : Prop := ∃ t : TT, PW X e t ∧ ∀ (B : Hp) (ca : List Addr) (ρ : List S) (cs : Store) (Hf : Hp) (σ : L2.St) (H : Hp) (Q : Bool → Hp → Prop), Rel B ca ρ cs Hf σ H →
  Gs X W B ca Hf ρ σ (f ρ cs) (fun _ _ H' _ b => Q b H') → t σ H Q
def DA (es : List Expr) (f : List S → M (List S)) : Prop := ∃ t : TA, PA X es t ∧ ∀ (B : Hp) (ca : List Addr) (ρ : List S) (cs : Store) (Hf : Hp) (σ : L2.St) (H : Hp) (Q : List V → Hp → Prop), Rel B ca ρ cs Hf σ H →
  Gs X W B ca Hf ρ σ (f ρ cs) (fun ca' Hf' H' _ ss => ∀ vs, SvsOk ca' Hf' ss vs → Q vs H') → t σ H Q
end
section
variable {X : Cx} {W : WX} {B : Hp} {ca : List Addr} {Hf H : Hp} {ρ : List S} {σ : L2.St} {cs : Store} {α β : Type} {P P' : List Addr → Hp → Hp → Store → α → Prop}
theorem Gs.mono {res : Res α} (h : Gs X W B ca Hf ρ σ res P) (m : ∀ ca' Hf' H' cs' a, Nx ca Hf ca' Hf' → Rel B ca' ρ cs' Hf' σ H' → P ca' Hf' H' cs' a → P' ca' Hf' H' cs' a) : Gs X W B ca Hf ρ σ res P' := by
  cases res with
  | ok a cs' => exact fun ca' Hf' H' n r => m _ _ _ _ _ n r (h ca' Hf' H' n r)
  | er c cs' => exact h
  | no => exact h
theorem Gs.fwd {res : Res α} {ca1 : List Addr} {Hf1 : Hp} (h : Gs X W B ca Hf ρ σ res P) (n : Nx ca Hf ca1 Hf1) : Gs X W B ca1 Hf1 ρ σ res P := by
  cases res with
  | ok a cs' => exact fun ca' Hf' H' n' r => h ca' Hf' H' (n.trans n') r
  | er c cs' => exact fun ca' Hf' H' cls n' r => h ca' Hf' H' cls (n.trans n') r
  | no => exact h
theorem Gs.bind {m : M α} {k : α → M β} {P : List Addr → Hp → Hp → Store → β → Prop} (h : Gs X W B ca Hf ρ σ (bnd m k cs) P) :
    Gs X W B ca Hf ρ σ (m cs) (fun ca1 Hf1 _ cs1 a => Gs X W B ca1 Hf1 ρ σ (k a cs1) P) := by
  unfold bnd at h
  cases e : m cs with
  | ok a cs1 => rw [e] at h; exact fun ca1 Hf1 H1 n r => Gs.fwd h n
  | er c cs1 => rw [e] at h; exact h
  | no => rw [e] at h; exact h
theorem Gs.ret_ {a : α} (h : Gs X W B ca Hf ρ σ (ret a cs) P) (r : Rel B ca ρ cs Hf σ H) : P ca Hf H cs a := h ca Hf H Nx.refl r
theorem Gs.ofO_ {o : Option α} (h : Gs X W B ca Hf ρ σ (ofO o cs) P) (r : Rel B ca ρ cs Hf σ H) : ∃ a, o = some a ∧ P ca Hf H cs a := by
  cases o with
  | none => exact h.elim
  | some a => exact ⟨a, rfl, h ca Hf H Nx.refl r⟩
end
end Dn

set_option Elab.async false
set_option linter.all false
set_option maxRecDepth 100000
set_option maxHeartbeats 1000000
/-! Dn2: expressions. -/
namespace Dn
open PySem L2

/-! ### views of operands -/
def Lv (Hf H : Hp) (v : V) (d : D) : Prop := Dd H v d ∧ match d with
  | .list xs => ∃ a vs, v = .ref a ∧ Rd H a (.lst vs) ∧ Dds Hf vs xs
  | .tuple xs => (∃ a vs, v = .ref a ∧ Rd H a (.tup vs) ∧ Dds Hf vs xs) ∧ Dd Hf v d
  | _ => Dd Hf v d
def vw : S → Store → Option D
  | .d x, _ => some x
  | .cel j, cs => match cs[j]? with
    | some (.lst xs) => some (.list xs)
    | _ => none
  | _, _ => none
def vwM (s : S) : M D := fun cs => match vw s cs with
  | some d => .ok d cs
  | none => .no
section
variable {B : Hp} {ca ca' : List Addr} {ρ : List S} {cs : Store} {Hf Hf' : Hp} {σ : L2.St} {H H' : Hp} {s : S} {v w : V} {d : D} {o : OC}
theorem Lv.of (e : Ex Hf H) (h : Dd Hf v d) : Lv Hf H v d := by
  refine ⟨dp_ex e h, ?_⟩
  cases h with
  | lst h a => exact ⟨_, _, rfl, rd_ex e h, a⟩
  | tup h a => exact ⟨⟨_, _, rfl, rd_ex e h, a⟩, .tup h a⟩
  | non => exact .non
  | bl b => exact .bl b
  | int i => exact .int i
  | str x => exact .str x
theorem vw_ok (r : Rel B ca ρ cs Hf σ H) (h : SvOk ca Hf s v) (e : vw s cs = some d) : Lv Hf H v d := by
  cases s with
  | no => exact h.elim
  | fn a => cases e
  | d x =>
    have : x = d := Option.some.inj e
    subst this
    exact Lv.of r.ext h
  | cel j =>
    obtain ⟨a, h1, rfl⟩ := h
    have e' : (match cs[j]? with
      | some (.lst xs) => some (.list xs)
      | _ => none) = some d := e
    split at e'
    · rename_i xs q
      cases e'
      obtain ⟨vs, g1, g2⟩ := r.cell q h1
      exact ⟨.lst (.inl g1) (dps_ex r.ext g2), a, vs, rfl, .inl g1, g2⟩
    · cases e'
theorem Lv.flat (h : Lv Hf H v d) (n : ∀ xs, d ≠ .list xs) : Dd Hf v d := by
  obtain ⟨_, h⟩ := h
  cases d with
  | list xs => exact absurd rfl (n xs)
  | tuple xs => exact h.2
  | _ => exact h
theorem Lv.lst {xs : List D} (h : Lv Hf H v (.list xs)) : ∃ a vs, v = .ref a ∧ Rd H a (.lst vs) ∧ Dds Hf vs xs := h.2
theorem Lv.tup {xs : List D} (h : Lv Hf H v (.tuple xs)) : ∃ a vs, v = .ref a ∧ Rd H a (.tup vs) ∧ Dds Hf vs xs := h.2.1
theorem Lv.int_ {i : Int} (h : Lv Hf H v (.int i)) : v = .int i := by cases h.1; rfl
theorem Lv.str_ {x : Str} (h : Lv Hf H v (.str x)) : v = .str x := by cases h.1; rfl
theorem Lv.bl_ {x : Bool} (h : Lv Hf H v (.bool x)) : v = .bl x := by cases h.1; rfl
theorem Lv.non_ (h : Lv Hf H v .none) : v = .non := by cases h.1; rfl

/-- the heap grows by frozen things -/
structure Gw (Hf H Hf' H' : Hp) : Prop where
  ex : Ex Hf Hf'
  kp : Ex H H'
  ext : Ex Hf' H'
  nhf : ∀ a, Hf' a ≠ none → Hf a ≠ none ∨ H a = none
theorem Gw.refl (e : Ex Hf H) : Gw Hf H Hf H := ⟨fun _ _ h => h, fun _ _ h => h, e, fun _ h => .inl h⟩
theorem Gw.new {o : HO} {p : Addr} (e : Ex Hf H) (hp : H p = none) : Gw Hf H (upd Hf p o) (upd H p o) := by
  have nf : Hf p = none := by
    cases q : Hf p with
    | none => rfl
    | some u => rw [e p u q] at hp; cases hp
  refine ⟨ex_new nf, ex_new hp, fun a u h => ?_, fun a h => ?_⟩
  · by_cases q : a = p
    · subst q; rw [upd_same] at h ⊢; exact h
    · rw [upd_ne q] at h ⊢; exact e a u h
  · by_cases q : a = p
    · exact .inr (q ▸ hp)
    · rw [upd_ne q] at h; exact .inl h
theorem Rel.gw (r : Rel B ca ρ cs Hf σ H) (g : Gw Hf H Hf' H') : Rel B ca ρ cs Hf' σ H' ∧ Nx ca Hf ca Hf' := by
  have n : Nx ca Hf ca Hf' := ⟨List.prefix_refl _, g.ex⟩
  have no : ∀ a, H a ≠ none → Hf a = none → Hf' a = none := fun a h1 h2 => by
    cases q : Hf' a with
    | none => rfl
    | some u =>
      rcases g.nhf a (by rw [q]; simp) with z | z
      · exact absurd h2 z
      · exact absurd z h1
  refine ⟨⟨g.ext, r.len, fun i s q => ?_, fun j u q => ?_, r.lenc, r.nd, fun a m => no a (r.there m) (r.off a m), fun a u h => g.kp a u (r.exb a u h), fun a m => ?_⟩, n⟩
  · rcases r.sl i s q with z | ⟨v, h1, h2⟩
    · exact .inl z
    · exact .inr ⟨v, h1, h2.nx n⟩
  · obtain ⟨a, h1, h2⟩ := (r.grow g.kp).cells j u q
    exact ⟨a, h1, h2.at rfl g.ex⟩
  · obtain ⟨h1, h2⟩ := r.dis a m
    refine ⟨no a ?_ h1, h2⟩
    cases q : B a with
    | none => exact absurd q m
    | some u => rw [r.exb a u q]; simp
end

/-! ### operators over data -/
def rD (g : D → D → Option D) : R2 := fun x y H Q => ∃ Hf da db d, g da db = some d ∧ Ex Hf H ∧ Lv Hf H x da ∧ Lv Hf H y db ∧ ∀ v Hf' H', Gw Hf H Hf' H' → Dd Hf' v d → Q v H'
def rDb (g : D → D → Option Bool) : R2 := fun x y H Q => ∃ Hf da db b, g da db = some b ∧ Ex Hf H ∧ Lv Hf H x da ∧ Lv Hf H y db ∧ Q (.bl b) H
def addD : D → D → Option D
  | .int i, .int j => some (.int (i + j))
  | .str x, .str y => if x.length + y.length ≤ sizeLine then some (.str (x ++ y)) else none
  | .tuple xs, .tuple ys => if xs.length + ys.length ≤ sizeLine then some (.tuple (xs ++ ys)) else none
  | .list xs, .list ys => if xs.length + ys.length ≤ sizeLine then some (.list (xs ++ ys)) else none
  | _, _ => none
def subD : D → D → Option D
  | .int i, .int j => some (.int (i - j))
  | _, _ => none
def mulD : D → D → Option D
  | .int i, .int j => if i.natAbs.log2 + j.natAbs.log2 < 1000000 then some (.int (i * j)) else none
  | _, _ => none
def fdivD : D → D → Option D
  | .int i, .int j => if 0 < j ∧ j.natAbs.log2 < 9000 then some (.int (i / j)) else none
  | _, _ => none
def modD : D → D → Option D
  | .int i, .int j => if 0 < j then some (.int (i % j)) else none
  | _, _ => none
def powD : D → D → Option D
  | .int i, .int j => if 0 ≤ j ∧ j ≤ 1000000 ∧ i.natAbs < 2 ^ 64 then some (.int (i ^ j.toNat)) else none
  | _, _ => none
def scalD : D → D → Bool
  | .none, .none => true | .none, .int _ => true | .int _, .none => true | .none, .bool _ => true | .bool _, .none => true | .none, .str _ => true | .str _, .none => true
  | .int _, .int _ => true | .bool _, .bool _ => true | .str _, .str _ => true
  | .int _, .str _ => true | .str _, .int _ => true | .bool _, .str _ => true | .str _, .bool _ => true
  | _, _ => false
def eqD (a b : D) : Option Bool := if scalD a b || (SeqAt.shaped a && SeqAt.shaped b) then some (PyData.eqv a b) else none
def neD (a b : D) : Option Bool := (eqD a b).map (!·)
def ltD : D → D → Option Bool
  | .int i, .int j => some (decide (i < j))
  | .str x, .str y => some (decide (x.cps.toList < y.cps.toList))
  | _, _ => none
def leD : D → D → Option Bool
  | .int i, .int j => some (decide (i ≤ j))
  | _, _ => none
def gtD : D → D → Option Bool
  | .int i, .int j => some (decide (j < i))
  | _, _ => none
def geD : D → D → Option Bool
  | .int i, .int j => some (decide (j ≤ i))
  | _, _ => none
def flatD : D → Bool
  | .none => true | .bool _ => true | .int _ => true | .str _ => true
  | _ => false
def inD (x : D) : D → Option Bool
  | .list ys => if flatD x && ys.all flatD || (SeqAt.shaped x && SeqAt.shaped (.list ys)) then some (ys.any fun y => PyData.eqv y x) else none
  | .tuple ys => if flatD x && ys.all flatD then some (ys.any fun y => PyData.eqv y x) else none
  | .str z => match x with
    | .str c => if c.length = 1 then some (decide (c.cps.getD 0 0 ∈ z.cps.toList)) else none
    | _ => none
  | _ => none
def ninD (x ys : D) : Option Bool := (inD x ys).map (!·)
def isnD : D → Option Bool
  | .none => some true
  | _ => some false
def lenD : D → Option Nat
  | .str x => if x.length ≤ sizeLine then some x.length else none
  | .list xs => some xs.length
  | .tuple xs => some xs.length
  | _ => none
def ixD : D → D → Option D
  | .list xs, .int i => atI xs i
  | .tuple xs, .int i => atI xs i
  | .str z, .int i => if z.length ≤ sizeLine then (atI z.cps.toList i).map fun c => .str ⟨#[c]⟩ else none
  | _, _ => none
def truD : D → Option Bool
  | .none => some false
  | .bool b => some b
  | .int i => some (i != 0)
  | .str x => if x.length ≤ sizeLine then some (x.length != 0) else none
  | .list xs => some (!xs.isEmpty)
  | .tuple xs => some (!xs.isEmpty)
  | .dict _ => none
def cutD (xs : List D) (lo hi : Option Int) : List D := (xs.drop (HT.sIx xs.length 0 lo)).take (HT.sIx xs.length xs.length hi - HT.sIx xs.length 0 lo)
/-- the types' names -/
def tyD : D → String
  | .none => "NoneType" | .bool _ => "bool" | .int _ => "int" | .str _ => "str" | .list _ => "list" | .tuple _ => "tuple" | .dict _ => "dict"
def isaD (T : String) : D → Bool
  | .none => T == "NoneType" | .bool _ => T == "bool" || T == "int" | .int _ => T == "int" | .str _ => T == "str" | .list _ => T == "list" | .tuple _ => T == "tuple" | .dict _ => T == "dict"

section
variable {X : Cx} {pins : List (Addr × Obj)} {σ : L2.St} {H Hf Hf' : Hp} {s : Shared} {l b : Addr} {xs ys zs : List V} {v : V} {d : D} {ds : List D}
theorem Inv.rdl (I : Inv X pins σ H s) (h : Rd H l (.lst xs)) : xs.length ≤ sizeLine ∧ ∃ (its : List Value) (n : Nat), Vals xs its ∧ xs.length = its.length ∧ s.heap.get? l = some { cls := .type "list", data := .seq its.toArray n } := by
  obtain ⟨z, its, n, r, e⟩ := h.ok I.hok
  exact ⟨z, its, n, r, r.length, e⟩
theorem add_ok : OpR X (binaryOp .Add) (rD addD) := by
  intro pins s σ H x y v u Q I rx ry h
  obtain ⟨Hf, da, db, d, e, ex, ha, hb, q⟩ := h
  unfold addD at e
  split at e
  · cases e
    have := ha.int_; subst this
    have := hb.int_; subst this
    exact op_add pins s σ H _ _ v u Q I rx ry ⟨_, _, rfl, rfl, q _ _ _ (Gw.refl ex) (.int _)⟩
  · split at e
    · cases e
      have := ha.str_; subst this
      have := hb.str_; subst this
      exact op_add_str pins s σ H _ _ v u Q I rx ry ⟨_, _, rfl, rfl, by assumption, q _ _ _ (Gw.refl ex) (.str _)⟩
    · cases e
  · rename_i ds es
    split at e
    · rename_i hz
      cases e
      obtain ⟨a, vs, rfl, h1, h2⟩ := ha.tup
      obtain ⟨a', vs', rfl, h1', h2'⟩ := hb.tup
      have l1 := dps_len h2
      have l2 := dps_len h2'
      refine op_catA pins s σ H _ _ v u Q I rx ry ⟨a, a', vs, vs', rfl, rfl, .inl h1, .inl h1', by omega, fun z => ?_, fun z z' => ?_, fun z z' p hp => ?_⟩
      · have : ds = [] := by rw [z] at l1; exact List.length_eq_zero_iff.mp l1.symm
        subst this
        exact q _ _ _ (Gw.refl ex) (hb.flat fun _ z => nomatch z)
      · have : es = [] := by rw [z'] at l2; exact List.length_eq_zero_iff.mp l2.symm
        subst this
        rw [List.append_nil] at q
        exact q _ _ _ (Gw.refl ex) (ha.flat fun _ z => nomatch z)
      · have g := Gw.new (o := .tup (vs ++ vs')) ex hp
        exact q _ _ _ g (.tup (.inl upd_same) (dps_ex g.ex (dps_app h2 h2')))
    · cases e
  · rename_i ds es
    split at e
    · rename_i hz
      cases e
      obtain ⟨a, vs, rfl, h1, h2⟩ := ha.lst
      obtain ⟨a', vs', rfl, h1', h2'⟩ := hb.lst
      cases rx
      cases ry
      have l1 := dps_len h2
      have l2 := dps_len h2'
      obtain ⟨z, its, n, r, hl, e⟩ := Inv.rdl I h1
      obtain ⟨z2, its2, n2, r2, hl2, e2⟩ := Inv.rdl I h1'
      refine PySem.P.add_list e e2 ?_ (by rw [List.size_toArray, List.size_toArray]; omega)
      have ea : its.toArray ++ its2.toArray = (its ++ its2).toArray := by simp
      rw [ea]
      have g := Gw.new (o := .lst (vs ++ vs')) ex I.fresh
      exact ⟨.ref _, _, I.lnew (t' := s.toks) (r.append r2) (by rw [List.length_append]; omega), rfl, q _ _ _ g (.lst (.inl upd_same) (dps_ex g.ex (dps_app h2 h2')))⟩
    · cases e
  · cases e
theorem sub_ok : OpR X (binaryOp .Sub) (rD subD) := by
  intro pins s σ H x y v u Q I rx ry h
  obtain ⟨Hf, da, db, d, e, ex, ha, hb, q⟩ := h
  unfold subD at e
  split at e
  · cases e
    have := ha.int_; subst this
    have := hb.int_; subst this
    exact op_sub pins s σ H _ _ v u Q I rx ry ⟨_, _, rfl, rfl, q _ _ _ (Gw.refl ex) (.int _)⟩
  · cases e
theorem mul_ok : OpR X (binaryOp .Mult) (rD mulD) := by
  intro pins s σ H x y v u Q I rx ry h
  obtain ⟨Hf, da, db, d, e, ex, ha, hb, q⟩ := h
  unfold mulD at e
  split at e
  · split at e
    · cases e
      have := ha.int_; subst this
      have := hb.int_; subst this
      exact op_mulW pins s σ H _ _ v u Q I rx ry ⟨_, _, rfl, rfl, by assumption, q _ _ _ (Gw.refl ex) (.int _)⟩
    · cases e
  · cases e
theorem fdiv_ok : OpR X (binaryOp .FloorDiv) (rD fdivD) := by
  intro pins s σ H x y v u Q I rx ry h
  obtain ⟨Hf, da, db, d, e, ex, ha, hb, q⟩ := h
  unfold fdivD at e
  split at e
  · split at e
    · cases e
      have := ha.int_; subst this
      have := hb.int_; subst this
      exact op_fdivW pins s σ H _ _ v u Q I rx ry ⟨_, _, rfl, rfl, by assumption, q _ _ _ (Gw.refl ex) (.int _)⟩
    · cases e
  · cases e
theorem mod_ok : OpR X (binaryOp .Mod) (rD modD) := by
  intro pins s σ H x y v u Q I rx ry h
  obtain ⟨Hf, da, db, d, e, ex, ha, hb, q⟩ := h
  unfold modD at e
  split at e
  · split at e
    · cases e
      have := ha.int_; subst this
      have := hb.int_; subst this
      exact op_mod pins s σ H _ _ v u Q I rx ry ⟨_, _, rfl, rfl, by assumption, q _ _ _ (Gw.refl ex) (.int _)⟩
    · cases e
  · cases e
theorem pow_ok : OpR X (binaryOp .Pow) (rD powD) := by
  intro pins s σ H x y v u Q I rx ry h
  obtain ⟨Hf, da, db, d, e, ex, ha, hb, q⟩ := h
  unfold powD at e
  split at e
  · split at e
    · cases e
      have := ha.int_; subst this
      have := hb.int_; subst this
      exact op_pow pins s σ H _ _ v u Q I rx ry ⟨_, _, rfl, rfl, by assumption, q _ _ _ (Gw.refl ex) (.int _)⟩
    · cases e
  · cases e

/-! ### comparisons -/
theorem scal_eq {x y : V} {da db : D} (h : scalD da db = true) (ha : Dd H x da) (hb : Dd H y db) : scal x y = true ∧ decide (x = y) = PyData.eqv da db := by
  cases ha <;> cases hb <;> first
    | (exact absurd (show false = true from h) Bool.false_ne_true)
    | (refine ⟨rfl, ?_⟩; rw [PyData.eqv]; first | exact dec_int | exact dec_bl | exact dec_str)
    | (refine ⟨rfl, ?_⟩; simp [PyData.eqv]; done)
theorem eq_ok (hu : X.A.units + 64 < cLine) : OpR X (compareOp .Eq) (rDb eqD) := by
  intro pins s σ H x y v u Q I rx ry h
  obtain ⟨Hf, da, db, d, e, ex, ha, hb, q⟩ := h
  unfold eqD at e
  split at e
  · rename_i hs
    cases e
    by_cases hc : scalD da db = true
    · obtain ⟨s1, s2⟩ := scal_eq hc ha.1 hb.1
      exact op_eq pins s σ H x y v u Q I rx ry ⟨s1, by rw [s2]; exact q⟩
    · rw [Bool.or_eq_true, Bool.and_eq_true] at hs
      rcases hs with z | ⟨z1, z2⟩
      · exact absurd z hc
      · exact op_eqD hu pins s σ H x y v u Q I rx ry ⟨da, db, dd_dp _ ha.1, dd_dp _ hb.1, z1, z2, q⟩
  · cases e
theorem ne_ok (hu : X.A.units + 64 < cLine) : OpR X (compareOp .NotEq) (rDb neD) := by
  intro pins s σ H x y v u Q I rx ry h
  obtain ⟨Hf, da, db, d, e, ex, ha, hb, q⟩ := h
  unfold neD eqD at e
  split at e
  · rename_i hs
    cases e
    by_cases hc : scalD da db = true
    · obtain ⟨s1, s2⟩ := scal_eq hc ha.1 hb.1
      exact op_ne pins s σ H x y v u Q I rx ry ⟨s1, by rw [s2]; exact q⟩
    · rw [Bool.or_eq_true, Bool.and_eq_true] at hs
      rcases hs with z | ⟨z1, z2⟩
      · exact absurd z hc
      · exact op_neD hu pins s σ H x y v u Q I rx ry ⟨da, db, dd_dp _ ha.1, dd_dp _ hb.1, z1, z2, q⟩
  · cases e
theorem lt_ok : OpR X (compareOp .Lt) (rDb ltD) := by
  intro pins s σ H x y v u Q I rx ry h
  obtain ⟨Hf, da, db, d, e, ex, ha, hb, q⟩ := h
  unfold ltD at e
  split at e
  · cases e
    have := ha.int_; subst this
    have := hb.int_; subst this
    exact op_lt pins s σ H _ _ v u Q I rx ry ⟨_, _, rfl, rfl, q⟩
  · cases e
    have := ha.str_; subst this
    have := hb.str_; subst this
    exact op_lt_str pins s σ H _ _ v u Q I rx ry ⟨_, _, rfl, rfl, q⟩
  · cases e
theorem le_ok : OpR X (compareOp .LtE) (rDb leD) := by
  intro pins s σ H x y v u Q I rx ry h
  obtain ⟨Hf, da, db, d, e, ex, ha, hb, q⟩ := h
  unfold leD at e
  split at e
  · cases e
    have := ha.int_; subst this
    have := hb.int_; subst this
    exact op_le pins s σ H _ _ v u Q I rx ry ⟨_, _, rfl, rfl, q⟩
  · cases e
theorem gt_ok : OpR X (compareOp .Gt) (rDb gtD) := by
  intro pins s σ H x y v u Q I rx ry h
  obtain ⟨Hf, da, db, d, e, ex, ha, hb, q⟩ := h
  unfold gtD at e
  split at e
  · cases e
    have := ha.int_; subst this
    have := hb.int_; subst this
    exact op_gt pins s σ H _ _ v u Q I rx ry ⟨_, _, rfl, rfl, q⟩
  · cases e
theorem ge_ok : OpR X (compareOp .GtE) (rDb geD) := by
  intro pins s σ H x y v u Q I rx ry h
  obtain ⟨Hf, da, db, d, e, ex, ha, hb, q⟩ := h
  unfold geD at e
  split at e
  · cases e
    have := ha.int_; subst this
    have := hb.int_; subst this
    exact op_ge pins s σ H _ _ v u Q I rx ry ⟨_, _, rfl, rfl, q⟩
  · cases e
theorem flat_V (f : flatD d = true) (h : Dd H v d) : flatV v = true := by
  cases h <;> first | rfl | (exact absurd (show false = true from f) Bool.false_ne_true)
theorem eqV_eqv {x y : V} {da db : D} (fa : flatD da = true) (fb : flatD db = true) (ha : Dd H x da) (hb : Dd H y db) : eqV x y = PyData.eqv da db := by
  cases ha <;> cases hb <;> first
    | (exact absurd (show false = true from fa) Bool.false_ne_true)
    | (exact absurd (show false = true from fb) Bool.false_ne_true)
    | rfl
    | (unfold eqV; simp [PyData.eqv])
theorem flat_all : ∀ {xs : List V} {ds : List D}, ds.all flatD = true → Dds H xs ds → xs.all flatV = true
  | _, _, _, .nil => rfl
  | _, _, f, .cons h t => by
    rw [List.all_cons, Bool.and_eq_true] at f
    rw [List.all_cons, Bool.and_eq_true]
    exact ⟨flat_V f.1 h, flat_all f.2 t⟩
theorem inV_any {x : V} (fx : flatD d = true) (hx : Dd H x d) : ∀ {xs : List V} {ds : List D}, ds.all flatD = true → Dds H xs ds → inV x xs = ds.any fun y => PyData.eqv y d
  | _, _, _, .nil => rfl
  | _, _, f, .cons h t => by
    rw [List.all_cons, Bool.and_eq_true] at f
    have ih := inV_any fx hx f.2 t
    unfold inV at ih ⊢
    rw [List.any_cons, List.any_cons, ih, eqV_eqv f.1 fx h hx]
end
end Dn

set_option Elab.async false
set_option linter.all false
set_option maxRecDepth 100000
set_option maxHeartbeats 1000000
/-! Dn3: expressions' rules. -/
namespace Dn
open PySem L2
section
variable {X : Cx} {pins : List (Addr × Obj)} {σ : L2.St} {H Hf Hf' : Hp} {s : Shared} {v : V} {d : D}
theorem sign_of {c : Str} (h : c.length = 1) : c = ⟨#[c.cps.getD 0 0]⟩ := by
  obtain ⟨⟨l⟩⟩ := c
  match l, h with
  | [a], _ => rfl
  | [], h => exact absurd h (by decide)
  | a :: b :: r, h => exact absurd (show (a :: b :: r).length = 1 from h) (by simp)
theorem in_ok (hu : X.A.units + 65 < cLine) : OpR X (compareOp .In) (rDb inD) := by
  intro pins s σ H x y v u Q I rx ry h
  obtain ⟨Hf, da, db, d, e, ex, ha, hb, q⟩ := h
  unfold inD at e
  split at e
  · rename_i ys
    split at e
    · rename_i hs
      cases e
      obtain ⟨a, vs, rfl, h1, h2⟩ := hb.lst
      by_cases hf : (flatD da && ys.all flatD) = true
      · rw [Bool.and_eq_true] at hf
        have h2' := dps_ex ex h2
        refine op_in_seq pins s σ H _ _ v u Q I rx ry ⟨a, vs, rfl, .inl (.inl h1), flat_V hf.1 ha.1, flat_all hf.2 h2', ?_⟩
        show Q (.bl (inV x vs)) H
        rw [inV_any hf.1 ha.1 hf.2 h2']
        exact q
      · rw [Bool.or_eq_true] at hs
        rcases hs with z | z
        · exact absurd z hf
        · rw [Bool.and_eq_true] at z
          exact op_inD hu pins s σ H _ _ v u Q I rx ry ⟨da, ys, dd_dp _ ha.1, dd_dp _ hb.1, z.1, z.2, q⟩
    · cases e
  · rename_i ys
    split at e
    · rename_i hf
      cases e
      rw [Bool.and_eq_true] at hf
      obtain ⟨a, vs, rfl, h1, h2⟩ := hb.tup
      have h2' := dps_ex ex h2
      refine op_in_seq pins s σ H _ _ v u Q I rx ry ⟨a, vs, rfl, .inr (.inl h1), flat_V hf.1 ha.1, flat_all hf.2 h2', ?_⟩
      show Q (.bl (inV x vs)) H
      rw [inV_any hf.1 ha.1 hf.2 h2']
      exact q
    · cases e
  · split at e
    · rename_i c
      split at e
      · rename_i hc
        cases e
        have := ha.str_; subst this
        have := hb.str_; subst this
        exact op_in_sign pins s σ H _ _ v u Q I rx ry ⟨_, _, by rw [← sign_of hc], rfl, q⟩
      · cases e
    · cases e
  · cases e
theorem nin_ok (hu : X.A.units + 65 < cLine) : OpR X (compareOp .NotIn) (rDb ninD) := by
  intro pins s σ H x y v u Q I rx ry h
  obtain ⟨Hf, da, db, d, e, ex, ha, hb, q⟩ := h
  unfold ninD inD at e
  split at e
  · rename_i ys
    split at e
    · rename_i hs
      cases e
      obtain ⟨a, vs, rfl, h1, h2⟩ := hb.lst
      by_cases hf : (flatD da && ys.all flatD) = true
      · rw [Bool.and_eq_true] at hf
        have h2' := dps_ex ex h2
        refine op_notIn_seq pins s σ H _ _ v u Q I rx ry ⟨a, vs, rfl, .inl (.inl h1), flat_V hf.1 ha.1, flat_all hf.2 h2', ?_⟩
        show Q (.bl (!inV x vs)) H
        rw [inV_any hf.1 ha.1 hf.2 h2']
        exact q
      · rw [Bool.or_eq_true] at hs
        rcases hs with z | z
        · exact absurd z hf
        · rw [Bool.and_eq_true] at z
          exact op_notInD hu pins s σ H _ _ v u Q I rx ry ⟨da, ys, dd_dp _ ha.1, dd_dp _ hb.1, z.1, z.2, q⟩
    · cases e
  · rename_i ys
    split at e
    · rename_i hf
      cases e
      rw [Bool.and_eq_true] at hf
      obtain ⟨a, vs, rfl, h1, h2⟩ := hb.tup
      have h2' := dps_ex ex h2
      refine op_notIn_seq pins s σ H _ _ v u Q I rx ry ⟨a, vs, rfl, .inr (.inl h1), flat_V hf.1 ha.1, flat_all hf.2 h2', ?_⟩
      show Q (.bl (!inV x vs)) H
      rw [inV_any hf.1 ha.1 hf.2 h2']
      exact q
    · cases e
  · split at e
    · rename_i c
      split at e
      · rename_i hc
        cases e
        have := ha.str_; subst this
        have := hb.str_; subst this
        exact op_notIn_sign pins s σ H _ _ v u Q I rx ry ⟨_, _, by rw [← sign_of hc], rfl, q⟩
      · cases e
    · cases e
  · cases e
theorem ix_ok : IxR X (rD ixD) := by
  intro value slice pins s σ H x y v u Q I rx ry h hs
  obtain ⟨Hf, da, db, d, e, ex, ha, hb, q⟩ := h
  unfold ixD at e
  split at e
  · obtain ⟨a, vs, rfl, h1, h2⟩ := ha.lst
    have := hb.int_; subst this
    obtain ⟨j, g1, g2, g3, g4, g5⟩ := atI_get e
    obtain ⟨w, k1, k2⟩ := dps_get h2 g2
    refine ix_list value slice pins s σ H _ _ v u Q I rx ry ⟨a, vs, _, w, rfl, rfl, .inl h1, ?_, q _ _ _ (Gw.refl ex) k2⟩ hs
    unfold atI at e ⊢
    rw [dps_len h2]
    cases z : ixN _ _ with
    | none => rw [z] at e; cases e
    | some j' =>
      rw [z] at e
      have e' : _ = some d := e
      obtain ⟨hs', _⟩ := ixN_seq z
      rw [g1] at hs'; cases hs'
      exact k1
  · obtain ⟨a, vs, rfl, h1, h2⟩ := ha.tup
    have := hb.int_; subst this
    obtain ⟨j, g1, g2, g3, g4, g5⟩ := atI_get e
    obtain ⟨w, k1, k2⟩ := dps_get h2 g2
    refine ix_tup value slice pins s σ H _ _ v u Q I rx ry ⟨a, vs, _, w, rfl, rfl, .inl h1, ?_, q _ _ _ (Gw.refl ex) k2⟩ hs
    unfold atI at e ⊢
    rw [dps_len h2]
    cases z : ixN _ _ with
    | none => rw [z] at e; cases e
    | some j' =>
      rw [z] at e
      have e' : _ = some d := e
      obtain ⟨hs', _⟩ := ixN_seq z
      rw [g1] at hs'; cases hs'
      exact k1
  · split at e
    · rename_i hz
      have := ha.str_; subst this
      have := hb.int_; subst this
      cases z : atI _ _ with
      | none => rw [z] at e; cases e
      | some c =>
        rw [z] at e
        cases e
        exact ix_str value slice pins s σ H _ _ v u Q I rx ry ⟨_, _, c, rfl, rfl, hz, z, q _ _ _ (Gw.refl ex) (.str _)⟩ hs
    · cases e
  · cases e
/-- xs[lo:hi] -/
def slD (d : D) (lo hi : Option Int) : Option D := match d with
  | .list xs => some (.list (cutD xs lo hi))
  | .tuple xs => some (.tuple (cutD xs lo hi))
  | _ => none
theorem cut_dds {xs : List D} {vs : List V} (h : Dds Hf vs xs) (lo hi : Option Int) : Dds Hf (cutV vs lo hi) (cutD xs lo hi) := by
  unfold cutV cutD
  rw [dps_len h]
  exact dps_take _ (dps_drop _ h)
def rSl (x : V) (lo hi : Option Int) (H : Hp) (Q : VK) : Prop := ∃ Hf d e, slD d lo hi = some e ∧ Ex Hf H ∧ Lv Hf H x d ∧ ∀ v Hf' H', Gw Hf H Hf' H' → Dd Hf' v e → Q v H'
theorem sl_ok : SlR X rSl := by
  intro pins s σ H x v vl vu lo hi sl Q I rx hs pl pu h
  obtain ⟨Hf, d, e, he, ex, hx, q⟩ := h
  unfold slD at he
  split at he
  · rename_i xs
    cases he
    obtain ⟨a, vs, rfl, h1, h2⟩ := hx.lst
    refine sl_list pins s σ H _ v vl vu lo hi sl Q I rx hs pl pu ⟨a, vs, rfl, .inl h1, fun p hp => ?_⟩
    have g := Gw.new (o := .lst (cutV vs lo hi)) ex hp
    exact q _ _ _ g (.lst (.inl upd_same) (dps_ex g.ex (cut_dds h2 lo hi)))
  · rename_i xs
    cases he
    obtain ⟨a, vs, rfl, h1, h2⟩ := hx.tup
    refine sl_tupA pins s σ H _ v vl vu lo hi sl Q I rx hs pl pu ⟨a, vs, rfl, .inl h1, fun z => ?_, fun z p hp => ?_⟩
    · rw [dps_len h2] at z
      have : cutD xs lo hi = xs := by
        unfold cutD
        rw [z.1, z.2, List.drop_zero, Nat.sub_zero, List.take_length]
      rw [this] at q
      exact q _ _ _ (Gw.refl ex) (hx.flat fun _ z => nomatch z)
    · have g := Gw.new (o := .tup (cutV vs lo hi)) ex hp
      exact q _ _ _ g (.tup (.inl upd_same) (dps_ex g.ex (cut_dds h2 lo hi)))
  · cases he
theorem tru_dd {K : PySem.W.Frag} {b : Bool} (h : Dd H v d) (e : truD d = some b) : TruV K v H b := by
  cases h with
  | non => cases e; rfl
  | bl x => cases e; rfl
  | int i => cases e; rfl
  | str x =>
    have e' : (if x.length ≤ sizeLine then some (x.length != 0) else none) = some b := e
    split at e'
    · rename_i hz
      cases e'
      refine ⟨hz, ?_⟩
      rw [Bool.eq_iff_iff]
      simp
    · cases e'
  | lst h a =>
    cases e
    refine .inl ⟨_, .inl h, ?_⟩
    cases a <;> rfl
  | tup h a =>
    cases e
    refine .inr (.inl ⟨_, .inl h, ?_⟩)
    cases a <;> rfl
theorem ty_dd {K : PySem.W.Frag} (h : Dd H v d) : TyX K H v (.type (tyD d)) := by
  cases h with
  | non => exact .base .non
  | bl x => exact .base (.bl x)
  | int i => exact .base (.int i)
  | str x => exact .base (.str x)
  | lst h a =>
    rcases h with h | ⟨o, h⟩
    · exact .base (.lst h)
    · exact .base (.frz h)
  | tup h a =>
    rcases h with h | ⟨o, h⟩
    · exact .base (.tup h)
    · exact .fTuple h
end

/-! ### the mirrors of expressions -/
def eV (i : Nat) (ρ : List S) : M S := match ρ[i]? with
  | some (.d x) => ret (.d x)
  | some (.cel j) => ret (.cel j)
  | some (.fn a) => ret (.fn a)
  | _ => stuck
def eFn (a : Addr) (_ : List S) : M S := ret (.fn a)
def eC (d : D) (_ : List S) : M S := ret (.d d)
def op2 {β : Type} (g : D → D → Option β) (fa fb : List S → M S) (ρ : List S) : M β := bnd (fa ρ) fun a => bnd (fb ρ) fun b => bnd (vwM a) fun x => bnd (vwM b) fun y => ofO (g x y)
def op1 {β : Type} (g : D → Option β) (fa : List S → M S) (ρ : List S) : M β := bnd (fa ρ) fun a => bnd (vwM a) fun x => ofO (g x)
def eBin (g : D → D → Option D) (fa fb : List S → M S) (ρ : List S) : M S := bnd (op2 g fa fb ρ) fun d => ret (.d d)
def eCmp (g : D → D → Option Bool) (fa fb : List S → M S) (ρ : List S) : M S := bnd (op2 g fa fb ρ) fun b => ret (.d (.bool b))
def eIsN (fa : List S → M S) (ρ : List S) : M S := bnd (op1 isnD fa ρ) fun b => ret (.d (.bool b))
def eIsNN (fa : List S → M S) (ρ : List S) : M S := bnd (op1 isnD fa ρ) fun b => ret (.d (.bool (!b)))
def tT (fa : List S → M S) (ρ : List S) : M Bool := op1 truD fa ρ
def tNotM (f : List S → M Bool) (ρ : List S) : M Bool := bnd (f ρ) fun b => ret (!b)
def tAndM (f g : List S → M Bool) (ρ : List S) : M Bool := bnd (f ρ) fun b => if b = true then g ρ else ret false
def tOrM (f g : List S → M Bool) (ρ : List S) : M Bool := bnd (f ρ) fun b => if b = true then ret true else g ρ
def eAndM (f g : List S → M S) (ρ : List S) : M S := bnd (f ρ) fun a => bnd (vwM a) fun x => bnd (ofO (truD x)) fun b => if b = true then g ρ else ret a
def eOrM (f g : List S → M S) (ρ : List S) : M S := bnd (f ρ) fun a => bnd (vwM a) fun x => bnd (ofO (truD x)) fun b => if b = true then ret a else g ρ
def eNotM (f : List S → M S) (ρ : List S) : M S := bnd (op1 truD f ρ) fun b => ret (.d (.bool (!b)))
def eIf (t : List S → M Bool) (f g : List S → M S) (ρ : List S) : M S := bnd (t ρ) fun b => if b = true then f ρ else g ρ
def tChn (g g' : D → D → Option Bool) (fa fb fc : List S → M S) (ρ : List S) : M Bool := bnd (fa ρ) fun a => bnd (fb ρ) fun b => bnd (vwM a) fun x => bnd (vwM b) fun y => bnd (ofO (g x y)) fun k => if k = true then bnd (fc ρ) fun c => bnd (vwM b) fun y' => bnd (vwM c) fun z => ofO (g' y' z) else ret false
def eChn (g g' : D → D → Option Bool) (fa fb fc : List S → M S) (ρ : List S) : M S := bnd (tChn g g' fa fb fc ρ) fun b => ret (.d (.bool b))
def aNil (_ : List S) : M (List S) := ret []
def aCons (f : List S → M S) (g : List S → M (List S)) (ρ : List S) : M (List S) := bnd (f ρ) fun a => bnd (g ρ) fun as => ret (a :: as)
def asD : List S → Option (List D)
  | [] => some []
  | .d x :: r => (asD r).map (x :: ·)
  | _ :: _ => none
def eTup (g : List S → M (List S)) (ρ : List S) : M S := bnd (g ρ) fun as => bnd (ofO (asD as)) fun xs => if xs.length ≤ sizeLine then ret (.d (.tuple xs)) else stuck
def eLst (g : List S → M (List S)) (ρ : List S) : M Rv := bnd (g ρ) fun as => bnd (ofO (asD as)) fun xs => if xs.length ≤ sizeLine then ret (.own (.lst xs)) else stuck
def frz : Rv → M S
  | .d x => ret (.d x)
  | .own (.lst xs) => ret (.d (.list xs))
  | .cel j => ret (.cel j)
  | _ => stuck
def eFrz (f : List S → M Rv) (ρ : List S) : M S := bnd (f ρ) frz
def sRv : S → M Rv
  | .d x => ret (.d x)
  | .cel j => ret (.cel j)
  | _ => stuck
def eRv (f : List S → M S) (ρ : List S) : M Rv := bnd (f ρ) sRv
def oNone (_ : List S) : M (Option Int) := ret none
def oSome (f : List S → M S) (ρ : List S) : M (Option Int) := bnd (f ρ) fun a => match a with
  | .d (.int i) => ret (some i)
  | _ => stuck
def eSl (f : List S → M S) (l h : List S → M (Option Int)) (ρ : List S) : M S := bnd (f ρ) fun a => bnd (l ρ) fun lo => bnd (h ρ) fun hi => bnd (vwM a) fun x => bnd (ofO (slD x lo hi)) fun d => ret (.d d)

section
variable {X : Cx} {W : WX} {B : Hp} {ca : List Addr} {Hf H : Hp} {ρ : List S} {σ : L2.St} {cs : Store} {α β : Type} {P : List Addr → Hp → Hp → Store → β → Prop}
theorem vwM_ {a : S} {k : D → M β} (r : Rel B ca ρ cs Hf σ H) (h : Gs X W B ca Hf ρ σ (bnd (vwM a) k cs) P) : ∃ d, vw a cs = some d ∧ Gs X W B ca Hf ρ σ (k d cs) P := by
  unfold bnd vwM at h
  cases e : vw a cs with
  | none => rw [e] at h; exact h.elim
  | some d => rw [e] at h; exact ⟨d, rfl, h⟩
theorem ofOb_ {o : Option α} {k : α → M β} (h : Gs X W B ca Hf ρ σ (bnd (ofO o) k cs) P) : ∃ d, o = some d ∧ Gs X W B ca Hf ρ σ (k d cs) P := by
  cases o with
  | none => exact h.elim
  | some d => exact ⟨d, rfl, h⟩
abbrev KE (X : Cx) (W : WX) (t : TE) (f : List S → M S) : Prop := ∀ (B : Hp) (ca : List Addr) (ρ : List S) (cs : Store) (Hf : Hp) (σ : L2.St) (H : Hp) (Q : VK), Rel B ca ρ cs Hf σ H →
  Gs X W B ca Hf ρ σ (f ρ cs) (fun ca' Hf' H' _ s => ∀ v, SvOk ca' Hf' s v → Q v H') → t σ H Q
theorem op2_run {γ : Type} {g : D → D → Option γ} {fa fb : List S → M S} {ta tb : TE} {P : List Addr → Hp → Hp → Store → β → Prop} {k : γ → M β} (ka : KE X W ta fa) (kb : KE X W tb fb) (r : Rel B ca ρ cs Hf σ H)
    (h : Gs X W B ca Hf ρ σ (bnd (op2 g fa fb ρ) k cs) P) {R : V → V → Hp → Prop}
    (hR : ∀ ca2 Hf2 H2 cs2 x y da db z, Nx ca Hf ca2 Hf2 → Rel B ca2 ρ cs2 Hf2 σ H2 → Lv Hf2 H2 x da → Lv Hf2 H2 y db → g da db = some z → Gs X W B ca2 Hf2 ρ σ (k z cs2) P → R x y H2) :
    ta σ H fun x H1 => tb σ H1 fun y H2 => R x y H2 := by
  have h' : Gs X W B ca Hf ρ σ (bnd (fa ρ) (fun a => bnd (fb ρ) fun b => bnd (vwM a) fun x => bnd (vwM b) fun y => bnd (ofO (g x y)) k) cs) P := by
    have e : bnd (op2 g fa fb ρ) k cs = bnd (fa ρ) (fun a => bnd (fb ρ) fun b => bnd (vwM a) fun x => bnd (vwM b) fun y => bnd (ofO (g x y)) k) cs := by
      unfold op2 bnd
      cases fa ρ cs with
      | ok a c1 =>
        dsimp only
        cases fb ρ c1 with
        | ok b c2 =>
          dsimp only
          cases vwM a c2 with
          | ok x c3 =>
            dsimp only
            cases vwM b c3 with
            | ok y c4 => rfl
            | er _ _ => rfl
            | no => rfl
          | er _ _ => rfl
          | no => rfl
        | er _ _ => rfl
        | no => rfl
      | er _ _ => rfl
      | no => rfl
    rw [← e]; exact h
  refine ka B ca ρ cs Hf σ H _ r (h'.bind.mono fun ca1 Hf1 H1 cs1 a n1 r1 h1 x hx => ?_)
  refine kb B ca1 ρ cs1 Hf1 σ H1 _ r1 (h1.bind.mono fun ca2 Hf2 H2 cs2 b n2 r2 h2 y hy => ?_)
  obtain ⟨da, e1, h3⟩ := vwM_ r2 h2
  obtain ⟨db, e2, h4⟩ := vwM_ r2 h3
  obtain ⟨z, e3, h5⟩ := ofOb_ h4
  exact hR ca2 Hf2 H2 cs2 x y da db z (n1.trans n2) r2 (vw_ok r2 (hx.nx n2) e1) (vw_ok r2 hy e2) e3 h5
theorem op1_run {γ : Type} {g : D → Option γ} {fa : List S → M S} {ta : TE} {k : γ → M β} (ka : KE X W ta fa) (r : Rel B ca ρ cs Hf σ H)
    (h : Gs X W B ca Hf ρ σ (bnd (op1 g fa ρ) k cs) P) {R : V → Hp → Prop}
    (hR : ∀ ca2 Hf2 H2 cs2 x da z, Nx ca Hf ca2 Hf2 → Rel B ca2 ρ cs2 Hf2 σ H2 → Lv Hf2 H2 x da → g da = some z → Gs X W B ca2 Hf2 ρ σ (k z cs2) P → R x H2) :
    ta σ H fun x H1 => R x H1 := by
  have h' : Gs X W B ca Hf ρ σ (bnd (fa ρ) (fun a => bnd (vwM a) fun x => bnd (ofO (g x)) k) cs) P := by
    have e : bnd (op1 g fa ρ) k cs = bnd (fa ρ) (fun a => bnd (vwM a) fun x => bnd (ofO (g x)) k) cs := by
      unfold op1 bnd
      cases fa ρ cs with
      | ok a c1 =>
        dsimp only
        cases vwM a c1 with
        | ok x c3 => rfl
        | er _ _ => rfl
        | no => rfl
      | er _ _ => rfl
      | no => rfl
    rw [← e]; exact h
  refine ka B ca ρ cs Hf σ H _ r (h'.bind.mono fun ca1 Hf1 H1 cs1 a n1 r1 h1 x hx => ?_)
  obtain ⟨da, e1, h3⟩ := vwM_ r1 h1
  obtain ⟨z, e3, h5⟩ := ofOb_ h3
  exact hR ca1 Hf1 H1 cs1 x da z n1 r1 (vw_ok r1 hx e1) e3 h5
/-- a Gs without a rest -/
theorem Gs.rest {res : M β} (h : Gs X W B ca Hf ρ σ (res cs) P) : Gs X W B ca Hf ρ σ (bnd res ret cs) P := by
  have e : bnd res ret cs = res cs := by
    unfold bnd
    cases res cs <;> rfl
  rw [e]; exact h
end

section
variable {X : Cx} {W : WX} {a b c : Expr} {fa fb fc : List S → M S} {pos : Pos}
theorem de_name (i : Nat) {x : Str} (hN : X.N[i]? = some x := by rfl) (hv : Vis X.env.scope x := by first | exact Or.inl rfl | exact Or.inr (Or.inl rfl) | exact Or.inr (Or.inr rfl)) (hd : (x == ("__debug__" : Str)) = false := by decide)
    (hcd : (x == ("__classdict__" : Str)) = false := by decide) : DE X W (.Name x pos) (eV i) := by
  refine ⟨_, pe_var hN hv hd hcd, fun B ca ρ cs Hf σ H Q r h => ?_⟩
  unfold eV at h
  cases e : ρ[i]? with
  | none => rw [e] at h; exact h.elim
  | some s =>
    rw [e] at h
    cases s with
    | no => exact h.elim
    | d x =>
      obtain ⟨v, h1, h2⟩ := r.get e (fun z => nomatch z)
      exact ⟨v, h1, h.ret_ r v h2⟩
    | cel j =>
      obtain ⟨v, h1, h2⟩ := r.get e (fun z => nomatch z)
      exact ⟨v, h1, h.ret_ r v h2⟩
    | fn a =>
      obtain ⟨v, h1, h2⟩ := r.get e (fun z => nomatch z)
      exact ⟨v, h1, h.ret_ r v h2⟩
theorem de_int {i j} : DE X W (.Constant (.int i) j pos) (eC (.int i)) := ⟨_, pe_int, fun B ca ρ cs Hf σ H Q r h => h.ret_ r _ (.int i)⟩
theorem de_bl {i j} : DE X W (.Constant (.bool i) j pos) (eC (.bool i)) := ⟨_, pe_bl, fun B ca ρ cs Hf σ H Q r h => h.ret_ r _ (.bl i)⟩
theorem de_str {i j} : DE X W (.Constant (.str i) j pos) (eC (.str i)) := ⟨_, pe_str, fun B ca ρ cs Hf σ H Q r h => h.ret_ r _ (.str i)⟩
theorem de_non {j} : DE X W (.Constant .none j pos) (eC .none) := ⟨_, pe_non, fun B ca ρ cs Hf σ H Q r h => h.ret_ r _ .non⟩
theorem de_globI {x : Str} {i : Int} {t : Tok} (hm : X.mg x = some (.int i t)) (hg : Gl X x := by rfl) (hd : (x == ("__debug__" : Str)) = false := by decide) : DE X W (.Name x pos) (eC (.int i)) :=
  ⟨_, pe_glob (v := .int i) hg hm ⟨t, rfl⟩ hd, fun B ca ρ cs Hf σ H Q r h => h.ret_ r _ (.int i)⟩
theorem de_globF {x : Str} {a : Addr} (hm : X.mg x = some (.ref a)) (hg : Gl X x := by rfl) (hd : (x == ("__debug__" : Str)) = false := by decide) : DE X W (.Name x pos) (eFn a) :=
  ⟨_, pe_glob (v := .ref a) hg hm rfl hd, fun B ca ρ cs Hf σ H Q r h => h.ret_ r _ rfl⟩
theorem de_globS {x y : Str} {t : Tok} (hm : X.mg x = some (.str y t)) (hg : Gl X x := by rfl) (hd : (x == ("__debug__" : Str)) = false := by decide) : DE X W (.Name x pos) (eC (.str y)) :=
  ⟨_, pe_glob (v := .str y) hg hm ⟨t, rfl⟩ hd, fun B ca ρ cs Hf σ H Q r h => h.ret_ r _ (.str y)⟩
theorem DO.frz {f : List S → M Rv} (h : DO X W a f) : DE X W a (eFrz f) := by
  obtain ⟨t, p, k⟩ := h
  refine ⟨t, p, fun B ca ρ cs Hf σ H Q r h => ?_⟩
  refine k B ca ρ cs Hf σ H Q r (h.bind.mono fun ca1 Hf1 H1 cs1 rv n1 r1 h1 v hv => ?_)
  cases rv with
  | d x => exact h1.ret_ r1 v hv
  | cel j => exact h1.ret_ r1 v hv
  | own o =>
    cases o with
    | lst xs =>
      obtain ⟨Hf2, r2, n2, dp⟩ := r1.own hv
      exact h1 ca1 Hf2 H1 n2 r2 v dp
    | dK kvs => exact h1.elim
theorem DE.rv (h : DE X W a fa) : DO X W a (eRv fa) := by
  obtain ⟨t, p, k⟩ := h
  refine ⟨t, p, fun B ca ρ cs Hf σ H Q r h => ?_⟩
  refine k B ca ρ cs Hf σ H Q r (h.bind.mono fun ca1 Hf1 H1 cs1 s n1 r1 h1 v hv => ?_)
  cases s with
  | d x => exact h1.ret_ r1 v hv
  | cel j => exact h1.ret_ r1 v hv
  | fn a => exact h1.elim
  | no => exact h1.elim
theorem de_op {op : Operator} {g : D → D → Option D} (ho : OpR X (binaryOp op) (rD g)) (ha : DE X W a fa) (hb : DE X W b fb) : DE X W (.BinOp a op b pos) (eBin g fa fb) := by
  obtain ⟨ta, pa, ka⟩ := ha
  obtain ⟨tb, pb, kb⟩ := hb
  refine ⟨_, pe_op ho pa pb, fun B ca ρ cs Hf σ H Q r h => ?_⟩
  refine op2_run ka kb r h fun ca2 Hf2 H2 cs2 x y da db z n2 r2 hx hy hz h2 => ?_
  refine ⟨Hf2, da, db, z, hz, r2.ext, hx, hy, fun v Hf3 H3 g3 dv => ?_⟩
  obtain ⟨r3, n3⟩ := r2.gw g3
  exact h2 ca2 Hf3 H3 n3 r3 v dv
theorem de_cmp {op : CmpOp} {g : D → D → Option Bool} (ho : OpR X (compareOp op) (rDb g)) (ha : DE X W a fa) (hb : DE X W b fb) (hm : behindInMarks op b = false := by rfl) : DE X W (.Compare a [op] [b] pos) (eCmp g fa fb) := by
  obtain ⟨ta, pa, ka⟩ := ha
  obtain ⟨tb, pb, kb⟩ := hb
  refine ⟨_, pe_cmpR ho pa pb hm, fun B ca ρ cs Hf σ H Q r h => ?_⟩
  refine op2_run ka kb r h fun ca2 Hf2 H2 cs2 x y da db z n2 r2 hx hy hz h2 => ?_
  exact ⟨Hf2, da, db, z, hz, r2.ext, hx, hy, h2.ret_ r2 _ (.bl z)⟩
theorem dt_cmp {op : CmpOp} {g : D → D → Option Bool} (ho : OpR X (compareOp op) (rDb g)) (ha : DE X W a fa) (hb : DE X W b fb) (hm : behindInMarks op b = false := by rfl) : DT X W (.Compare a [op] [b] pos) (op2 g fa fb) := by
  obtain ⟨ta, pa, ka⟩ := ha
  obtain ⟨tb, pb, kb⟩ := hb
  refine ⟨_, pt_cmpR ho pa pb hm, fun B ca ρ cs Hf σ H Q r h => ?_⟩
  refine op2_run ka kb r h.rest fun ca2 Hf2 H2 cs2 x y da db z n2 r2 hx hy hz h2 => ?_
  exact ⟨Hf2, da, db, z, hz, r2.ext, hx, hy, z, rfl, h2.ret_ r2⟩
theorem isn_dec {da : D} {x : V} {k : Bool} (hx : Dd H x da) (hz : isnD da = some k) : decide (x = V.non) = k := by
  cases hx <;> (unfold isnD at hz; cases hz; first | rfl | simp)
theorem de_isn {j p} (ha : DE X W a fa) : DE X W (.Compare a [.Is] [.Constant .none j p] pos) (eIsN fa) := by
  obtain ⟨ta, pa, ka⟩ := ha
  refine ⟨_, pe_cmpR op_isN pa pe_non rfl, fun B ca ρ cs Hf σ H Q r h => ?_⟩
  refine op1_run ka r h fun ca2 Hf2 H2 cs2 x da z n2 r2 hx hz h2 => ?_
  refine ⟨rfl, ?_⟩
  rw [isn_dec hx.1 hz]
  exact h2.ret_ r2 _ (.bl z)
theorem de_isnn {j p} (ha : DE X W a fa) : DE X W (.Compare a [.IsNot] [.Constant .none j p] pos) (eIsNN fa) := by
  obtain ⟨ta, pa, ka⟩ := ha
  refine ⟨_, pe_cmpR op_notN pa pe_non rfl, fun B ca ρ cs Hf σ H Q r h => ?_⟩
  refine op1_run ka r h fun ca2 Hf2 H2 cs2 x da z n2 r2 hx hz h2 => ?_
  refine ⟨rfl, ?_⟩
  rw [isn_dec hx.1 hz]
  exact h2.ret_ r2 _ (.bl (!z))
theorem dt_isn {j p} (ha : DE X W a fa) : DT X W (.Compare a [.Is] [.Constant .none j p] pos) (op1 isnD fa) := by
  obtain ⟨ta, pa, ka⟩ := ha
  refine ⟨_, pt_cmpR op_isN pa pe_non rfl, fun B ca ρ cs Hf σ H Q r h => ?_⟩
  refine op1_run ka r h.rest fun ca2 Hf2 H2 cs2 x da z n2 r2 hx hz h2 => ?_
  refine ⟨rfl, z, by rw [isn_dec hx.1 hz], h2.ret_ r2⟩
theorem dt_isnn {j p} (ha : DE X W a fa) : DT X W (.Compare a [.IsNot] [.Constant .none j p] pos) (tNotM (op1 isnD fa)) := by
  obtain ⟨ta, pa, ka⟩ := ha
  refine ⟨_, pt_cmpR op_notN pa pe_non rfl, fun B ca ρ cs Hf σ H Q r h => ?_⟩
  refine op1_run ka r h fun ca2 Hf2 H2 cs2 x da z n2 r2 hx hz h2 => ?_
  refine ⟨rfl, !z, by rw [isn_dec hx.1 hz], h2.ret_ r2⟩
/-- an expression's truth as a test -/
theorem dt_tru (ha : DE X W a fa) (he : ∀ whole, isTrue a X.env whole = (do let v ← whole; standAt a.pos; holding [v] (truthy v)) := by intro _; rfl) : DT X W a (tT fa) := by
  obtain ⟨ta, pa, ka⟩ := ha
  refine ⟨_, pt_truth pa he, fun B ca ρ cs Hf σ H Q r h => ?_⟩
  refine op1_run ka r h.rest fun ca2 Hf2 H2 cs2 x da z n2 r2 hx hz h2 => ?_
  exact ⟨z, tru_dd hx.1 hz, h2.ret_ r2⟩
theorem dt_not {f : List S → M Bool} (ha : DT X W a f) : DT X W (.UnaryOp .Not a pos) (tNotM f) := by
  obtain ⟨ta, pa, ka⟩ := ha
  refine ⟨_, pt_not pa, fun B ca ρ cs Hf σ H Q r h => ?_⟩
  exact ka B ca ρ cs Hf σ H _ r (h.bind.mono fun ca1 Hf1 H1 cs1 z n1 r1 h1 => h1.ret_ r1)
theorem DW.dt {f : List S → M Bool} (h : DW X W a f) : DT X W a f := let ⟨t, p, k⟩ := h; ⟨t, p.pt, k⟩
variable {f g : List S → M Bool} {rest : List Expr}
theorem dw_and1 (h : DT X W a f) : DW X W (.BoolOp .And [a] pos) f := let ⟨t, p, k⟩ := h; ⟨t, pw_and1 p, k⟩
theorem dw_or1 (h : DT X W a f) : DW X W (.BoolOp .Or [a] pos) f := let ⟨t, p, k⟩ := h; ⟨t, pw_or1 p, k⟩
theorem dw_and (ha : DT X W a f) (hb : DW X W (.BoolOp .And (b :: rest) pos) g) : DW X W (.BoolOp .And (a :: b :: rest) pos) (tAndM f g) := by
  obtain ⟨ta, pa, ka⟩ := ha
  obtain ⟨tb, pb, kb⟩ := hb
  refine ⟨_, pw_and pa pb, fun B ca ρ cs Hf σ H Q r h => ?_⟩
  refine ka B ca ρ cs Hf σ H _ r (h.bind.mono fun ca1 Hf1 H1 cs1 z n1 r1 h1 => ?_)
  cases z with
  | true => exact kb B ca1 ρ cs1 Hf1 σ H1 Q r1 h1
  | false => exact h1.ret_ r1
theorem dw_or (ha : DT X W a f) (hb : DW X W (.BoolOp .Or (b :: rest) pos) g) : DW X W (.BoolOp .Or (a :: b :: rest) pos) (tOrM f g) := by
  obtain ⟨ta, pa, ka⟩ := ha
  obtain ⟨tb, pb, kb⟩ := hb
  refine ⟨_, pw_or pa pb, fun B ca ρ cs Hf σ H Q r h => ?_⟩
  refine ka B ca ρ cs Hf σ H _ r (h.bind.mono fun ca1 Hf1 H1 cs1 z n1 r1 h1 => ?_)
  cases z with
  | true => exact h1.ret_ r1
  | false => exact kb B ca1 ρ cs1 Hf1 σ H1 Q r1 h1
theorem de_one {op} (h : DE X W a fa) : DE X W (.BoolOp op [a] pos) fa := let ⟨t, p, k⟩ := h; ⟨t, pe_one p, k⟩
theorem de_and (ha : DE X W a fa) (hb : DE X W (.BoolOp .And (b :: rest) pos) fb) : DE X W (.BoolOp .And (a :: b :: rest) pos) (eAndM fa fb) := by
  obtain ⟨ta, pa, ka⟩ := ha
  obtain ⟨tb, pb, kb⟩ := hb
  refine ⟨_, pe_andT pa pb, fun B ca ρ cs Hf σ H Q r h => ?_⟩
  refine ka B ca ρ cs Hf σ H _ r (h.bind.mono fun ca1 Hf1 H1 cs1 s n1 r1 h1 v hv => ?_)
  obtain ⟨d, e1, h2⟩ := vwM_ r1 h1
  obtain ⟨z, e2, h3⟩ := ofOb_ h2
  refine ⟨z, tru_dd (vw_ok r1 hv e1).1 e2, ?_⟩
  cases z with
  | true => exact kb B ca1 ρ cs1 Hf1 σ H1 Q r1 h3
  | false => exact h3.ret_ r1 v hv
theorem de_or (ha : DE X W a fa) (hb : DE X W (.BoolOp .Or (b :: rest) pos) fb) : DE X W (.BoolOp .Or (a :: b :: rest) pos) (eOrM fa fb) := by
  obtain ⟨ta, pa, ka⟩ := ha
  obtain ⟨tb, pb, kb⟩ := hb
  refine ⟨_, pe_orT pa pb, fun B ca ρ cs Hf σ H Q r h => ?_⟩
  refine ka B ca ρ cs Hf σ H _ r (h.bind.mono fun ca1 Hf1 H1 cs1 s n1 r1 h1 v hv => ?_)
  obtain ⟨d, e1, h2⟩ := vwM_ r1 h1
  obtain ⟨z, e2, h3⟩ := ofOb_ h2
  refine ⟨z, tru_dd (vw_ok r1 hv e1).1 e2, ?_⟩
  cases z with
  | true => exact h3.ret_ r1 v hv
  | false => exact kb B ca1 ρ cs1 Hf1 σ H1 Q r1 h3
theorem de_not (ha : DE X W a fa) : DE X W (.UnaryOp .Not a pos) (eNotM fa) := by
  obtain ⟨ta, pa, ka⟩ := ha
  refine ⟨_, pe_notT pa, fun B ca ρ cs Hf σ H Q r h => ?_⟩
  refine op1_run ka r h fun ca2 Hf2 H2 cs2 x da z n2 r2 hx hz h2 => ?_
  exact ⟨z, tru_dd hx.1 hz, h2.ret_ r2 _ (.bl (!z))⟩
theorem de_if (hc : DT X W c f) (ha : DE X W a fa) (hb : DE X W b fb) : DE X W (.IfExp c a b pos) (eIf f fa fb) := by
  obtain ⟨tc, pc, kc⟩ := hc
  obtain ⟨ta, pa, ka⟩ := ha
  obtain ⟨tb, pb, kb⟩ := hb
  refine ⟨_, pe_ifExp pc pa pb, fun B ca ρ cs Hf σ H Q r h => ?_⟩
  refine kc B ca ρ cs Hf σ H _ r (h.bind.mono fun ca1 Hf1 H1 cs1 z n1 r1 h1 => ?_)
  cases z with
  | true => exact ka B ca1 ρ cs1 Hf1 σ H1 Q r1 h1
  | false => exact kb B ca1 ρ cs1 Hf1 σ H1 Q r1 h1
theorem chn_run {ta tb tc : TE} {g g' : D → D → Option Bool} (ka : KE X W ta fa) (kb : KE X W tb fb) (kc : KE X W tc fc) {B : Hp} {ca : List Addr} {ρ : List S} {cs : Store} {Hf : Hp} {σ : L2.St} {H : Hp} (r : Rel B ca ρ cs Hf σ H) {R : Bool → Hp → Prop}
    (h : Gs X W B ca Hf ρ σ (tChn g g' fa fb fc ρ cs) (fun _ _ H' _ b => R b H')) : tChain (rDb g) (rDb g') ta tb tc σ H fun x H' => ∃ k, x = .bl k ∧ R k H' := by
  refine ka B ca ρ cs Hf σ H _ r (h.bind.mono fun ca1 Hf1 H1 cs1 s n1 r1 h1 x hx => ?_)
  refine kb B ca1 ρ cs1 Hf1 σ H1 _ r1 (h1.bind.mono fun ca2 Hf2 H2 cs2 s2 n2 r2 h2 y hy => ?_)
  obtain ⟨da, e1, h3⟩ := vwM_ r2 h2
  obtain ⟨db, e2, h4⟩ := vwM_ r2 h3
  obtain ⟨z, e3, h5⟩ := ofOb_ h4
  refine ⟨Hf2, da, db, z, e3, r2.ext, vw_ok r2 (hx.nx n2) e1, vw_ok r2 hy e2, z, rfl, ?_⟩
  cases z with
  | false => exact iteF ⟨false, rfl, h5.ret_ r2⟩
  | true =>
    refine iteT ?_
    have h5' : Gs X W B ca2 Hf2 ρ σ (bnd (fc ρ) (fun c => bnd (vwM s2) fun y' => bnd (vwM c) fun z => ofO (g' y' z)) cs2) (fun _ _ H' _ b => R b H') := h5
    refine kc B ca2 ρ cs2 Hf2 σ H2 _ r2 (h5'.bind.mono fun ca3 Hf3 H3 cs3 s3 n3 r3 h6 w hw => ?_)
    obtain ⟨db', e4, h7⟩ := vwM_ r3 h6
    obtain ⟨dc, e5, h8⟩ := vwM_ r3 h7
    obtain ⟨k, e6, h9⟩ := h8.ofO_ r3
    exact ⟨Hf3, db', dc, k, e6, r3.ext, vw_ok r3 (hy.nx n3) e4, vw_ok r3 hw e5, k, rfl, h9⟩
theorem dt_chn {op op' : CmpOp} {g g' : D → D → Option Bool} (ho : OpR X (compareOp op) (rDb g)) (ho' : OpR X (compareOp op') (rDb g')) (ha : DE X W a fa) (hb : DE X W b fb) (hc : DE X W c fc)
    (hm : lastMarks [op, op'] [b, c] = false := by with_unfolding_all rfl) : DT X W (.Compare a [op, op'] [b, c] pos) (tChn g g' fa fb fc) := by
  obtain ⟨ta, pa, ka⟩ := ha
  obtain ⟨tb, pb, kb⟩ := hb
  obtain ⟨tc, pc, kc⟩ := hc
  exact ⟨_, pt_chain ho ho' pa pb pc hm, fun B ca ρ cs Hf σ H Q r h => chn_run ka kb kc r h⟩
theorem de_chn {op op' : CmpOp} {g g' : D → D → Option Bool} (ho : OpR X (compareOp op) (rDb g)) (ho' : OpR X (compareOp op') (rDb g')) (ha : DE X W a fa) (hb : DE X W b fb) (hc : DE X W c fc)
    (hm : lastMarks [op, op'] [b, c] = false := by with_unfolding_all rfl) : DE X W (.Compare a [op, op'] [b, c] pos) (eChn g g' fa fb fc) := by
  obtain ⟨ta, pa, ka⟩ := ha
  obtain ⟨tb, pb, kb⟩ := hb
  obtain ⟨tc, pc, kc⟩ := hc
  have mono : ∀ {σ : L2.St} {H : Hp} {Q Q' : VK}, tChain (rDb g) (rDb g') ta tb tc σ H Q → tChain (rDb g) (rDb g') ta tb tc σ H Q := fun h => h
  refine ⟨_, pe_chain ho ho' pa pb pc hm, fun B ca ρ cs Hf σ H Q r h => ?_⟩
  refine ka B ca ρ cs Hf σ H _ r ?_
  have h0 : Gs X W B ca Hf ρ σ (bnd (fa ρ) (fun s => bnd (fun cs => bnd (fb ρ) (fun b => bnd (vwM s) fun x => bnd (vwM b) fun y => bnd (ofO (g x y)) fun k => if k = true then bnd (fc ρ) fun c => bnd (vwM b) fun y' => bnd (vwM c) fun z => ofO (g' y' z) else ret false) cs) fun b => ret (.d (.bool b))) cs) (fun ca' Hf' H' _ s => ∀ v, SvOk ca' Hf' s v → Q v H') := by
    have e : ∀ (m : M S) (k : S → M Bool) (k2 : Bool → M S), bnd (bnd m k) k2 cs = bnd m (fun s => bnd (k s) k2) cs := fun m k k2 => by
      unfold bnd
      cases m cs <;> rfl
    have h' := h
    unfold eChn tChn at h'
    rw [e] at h'
    exact h'
  refine h0.bind.mono fun ca1 Hf1 H1 cs1 s n1 r1 h1 x hx => ?_
  have h1' := h1.bind
  refine kb B ca1 ρ cs1 Hf1 σ H1 _ r1 (h1'.bind.mono fun ca2 Hf2 H2 cs2 s2 n2 r2 h2 y hy => ?_)
  obtain ⟨da, e1, h3⟩ := vwM_ r2 h2
  obtain ⟨db, e2, h4⟩ := vwM_ r2 h3
  obtain ⟨z, e3, h5⟩ := ofOb_ h4
  refine ⟨Hf2, da, db, z, e3, r2.ext, vw_ok r2 (hx.nx n2) e1, vw_ok r2 hy e2, z, rfl, ?_⟩
  cases z with
  | false => exact iteF ((h5.ret_ r2).ret_ r2 _ (.bl false))
  | true =>
    refine iteT ?_
    have h5' : Gs X W B ca2 Hf2 ρ σ (bnd (fc ρ) (fun c => bnd (vwM s2) fun y' => bnd (vwM c) fun z => ofO (g' y' z)) cs2) _ := h5
    refine kc B ca2 ρ cs2 Hf2 σ H2 _ r2 (h5'.bind.mono fun ca3 Hf3 H3 cs3 s3 n3 r3 h6 w hw => ?_)
    obtain ⟨db', e4, h7⟩ := vwM_ r3 h6
    obtain ⟨dc, e5, h8⟩ := vwM_ r3 h7
    obtain ⟨k, e6, h9⟩ := h8.ofO_ r3
    exact ⟨Hf3, db', dc, k, e6, r3.ext, vw_ok r3 (hy.nx n3) e4, vw_ok r3 hw e5, h9.ret_ r3 _ (.bl k)⟩
end
end Dn

set_option Elab.async false
set_option linter.all false
set_option maxRecDepth 100000
set_option maxHeartbeats 1000000
/-! Dn4: arguments, displays, subscripts, calls of built-ins. -/
namespace Dn
open PySem L2
abbrev KA (X : Cx) (W : WX) (t : TA) (f : List S → M (List S)) : Prop := ∀ (B : Hp) (ca : List Addr) (ρ : List S) (cs : Store) (Hf : Hp) (σ : L2.St) (H : Hp) (Q : List V → Hp → Prop), Rel B ca ρ cs Hf σ H →
  Gs X W B ca Hf ρ σ (f ρ cs) (fun ca' Hf' H' _ ss => ∀ vs, SvsOk ca' Hf' ss vs → Q vs H') → t σ H Q
section
variable {Hf H : Hp} {ca : List Addr}
theorem asD_dds : ∀ {ss : List S} {xs : List D} {vs : List V}, asD ss = some xs → SvsOk ca Hf ss vs → Dds Hf vs xs
  | [], xs, vs, e, h => by
    have : [] = xs := Option.some.inj e
    subst this
    cases h
    exact .nil
  | .d x :: r, xs, vs, e, h => by
    unfold asD at e
    cases q : asD r with
    | none => rw [q] at e; cases e
    | some ys =>
      rw [q] at e
      have : x :: ys = xs := Option.some.inj e
      subst this
      cases h with
      | cons h t => exact .cons h (asD_dds q t)
  | .cel j :: r, xs, vs, e, h => by cases e
  | .fn a :: r, xs, vs, e, h => by cases e
  | .no :: r, xs, vs, e, h => by cases e
end
section
variable {X : Cx} {W : WX} {a b e : Expr} {es : List Expr} {fa fb : List S → M S} {g : List S → M (List S)} {pos : Pos}
theorem da_nil : DA X W [] aNil := ⟨_, pa_nil, fun B ca ρ cs Hf σ H Q r h => h.ret_ r _ .nil⟩
theorem da_cons (ha : DE X W e fa) (hr : DA X W es g) (hs : starEach (e :: es) X.env = (false, eval e X.env) :: starEach es X.env := by rfl) : DA X W (e :: es) (aCons fa g) := by
  obtain ⟨ta, pa, ka⟩ := ha
  obtain ⟨tr, pr, kr⟩ := hr
  refine ⟨_, pa_cons pa pr hs, fun B ca ρ cs Hf σ H Q r h => ?_⟩
  refine ka B ca ρ cs Hf σ H _ r (h.bind.mono fun ca1 Hf1 H1 cs1 s n1 r1 h1 v hv => ?_)
  refine kr B ca1 ρ cs1 Hf1 σ H1 _ r1 (h1.bind.mono fun ca2 Hf2 H2 cs2 ss n2 r2 h2 vs hvs => ?_)
  exact h2.ret_ r2 _ (.cons (hv.nx n2) hvs)
theorem de_tup {k} (hr : DA X W es g) : DE X W (.Tuple es k pos) (eTup g) := by
  obtain ⟨tr, pr, kr⟩ := hr
  refine ⟨_, pe_tup pr, fun B ca ρ cs Hf σ H Q r h => ?_⟩
  refine kr B ca ρ cs Hf σ H _ r (h.bind.mono fun ca1 Hf1 H1 cs1 ss n1 r1 h1 vs hvs => ?_)
  obtain ⟨xs, e1, h2⟩ := ofOb_ h1
  have dd := asD_dds e1 hvs
  split at h2
  · rename_i hz
    refine ⟨by rw [dps_len dd]; exact hz, fun p hp => ?_⟩
    obtain ⟨r2, n2⟩ := r1.news (o := .tup vs) hp
    exact h2 ca1 _ _ n2 r2 _ (.tup (.inl upd_same) (dps_ex n2.ex dd))
  · exact h2.elim
theorem do_lst (hr : DA X W es g) : DO X W (.List es pos) (eLst g) := by
  obtain ⟨tr, pr, kr⟩ := hr
  refine ⟨_, pe_lst pr, fun B ca ρ cs Hf σ H Q r h => ?_⟩
  refine kr B ca ρ cs Hf σ H _ r (h.bind.mono fun ca1 Hf1 H1 cs1 ss n1 r1 h1 vs hvs => ?_)
  obtain ⟨xs, e1, h2⟩ := ofOb_ h1
  have dd := asD_dds e1 hvs
  split at h2
  · rename_i hz
    refine ⟨by rw [dps_len dd]; exact hz, fun p hp => ?_⟩
    obtain ⟨m1, m2, m3⟩ := r1.newIn hp
    exact h2 ca1 Hf1 _ Nx.refl (r1.grow (ex_new hp)) _ ⟨p, rfl, ⟨vs, upd_same, dd⟩, m1, m2, m3⟩
  · exact h2.elim
theorem de_ix (ha : DE X W a fa) (hb : DE X W b fb) (hs : PlainIx b := by exact fun _ _ => rfl) : DE X W (.Subscript a b pos) (eBin ixD fa fb) := by
  obtain ⟨ta, pa, ka⟩ := ha
  obtain ⟨tb, pb, kb⟩ := hb
  refine ⟨_, pe_ix ix_ok pa pb hs, fun B ca ρ cs Hf σ H Q r h => ?_⟩
  refine op2_run ka kb r h fun ca2 Hf2 H2 cs2 x y da db z n2 r2 hx hy hz h2 => ?_
  refine ⟨Hf2, da, db, z, hz, r2.ext, hx, hy, fun v Hf3 H3 g3 dv => ?_⟩
  obtain ⟨r3, n3⟩ := r2.gw g3
  exact h2 ca2 Hf3 H3 n3 r3 v dv
/-- a part of a slice -/
def DPo (X : Cx) (W : WX) (e : Option Expr) (f : List S → M (Option Int)) : Prop := ∃ t : TO, PO X e t ∧ ∀ (B : Hp) (ca : List Addr) (ρ : List S) (cs : Store) (Hf : Hp) (σ : L2.St) (H : Hp) (Q : Option Int → Hp → Prop), Rel B ca ρ cs Hf σ H →
  Gs X W B ca Hf ρ σ (f ρ cs) (fun ca' Hf' H' _ o => Q o H') → t σ H Q
theorem dpo_none : DPo X W none oNone := ⟨_, po_none, fun B ca ρ cs Hf σ H Q r h => h.ret_ r⟩
theorem dpo_some (ha : DE X W a fa) : DPo X W (some a) (oSome fa) := by
  obtain ⟨ta, pa, ka⟩ := ha
  refine ⟨_, po_some pa, fun B ca ρ cs Hf σ H Q r h => ?_⟩
  refine ka B ca ρ cs Hf σ H _ r (h.bind.mono fun ca1 Hf1 H1 cs1 s n1 r1 h1 v hv => ?_)
  cases s with
  | d x =>
    cases x with
    | int i =>
      have hv' : Dd Hf1 v (.int i) := hv
      cases hv'
      exact ⟨i, rfl, h1.ret_ r1⟩
    | _ => exact h1.elim
  | _ => exact h1.elim
theorem de_sl {lo hi : Option Expr} {p2 : Pos} {fl fh : List S → M (Option Int)} (ha : DE X W a fa) (hl : DPo X W lo fl) (hh : DPo X W hi fh) : DE X W (.Subscript a (.Slice lo hi none p2) pos) (eSl fa fl fh) := by
  obtain ⟨ta, pa, ka⟩ := ha
  obtain ⟨tl, pl, kl⟩ := hl
  obtain ⟨th, ph, kh⟩ := hh
  refine ⟨_, pe_slice sl_ok pa pl ph, fun B ca ρ cs Hf σ H Q r h => ?_⟩
  refine ka B ca ρ cs Hf σ H _ r (h.bind.mono fun ca1 Hf1 H1 cs1 s n1 r1 h1 v hv => ?_)
  refine kl B ca1 ρ cs1 Hf1 σ H1 _ r1 (h1.bind.mono fun ca2 Hf2 H2 cs2 o n2 r2 h2 => ?_)
  refine kh B ca2 ρ cs2 Hf2 σ H2 _ r2 (h2.bind.mono fun ca3 Hf3 H3 cs3 o' n3 r3 h3 => ?_)
  obtain ⟨d, e1, h4⟩ := vwM_ r3 h3
  obtain ⟨d', e2, h5⟩ := ofOb_ h4
  refine ⟨Hf3, d, d', e2, r3.ext, vw_ok r3 (hv.nx (n2.trans n3)) e1, fun w Hf4 H4 g4 dw => ?_⟩
  obtain ⟨r4, n4⟩ := r3.gw g4
  exact h5 ca3 Hf4 H4 n4 r4 w dw
end

/-! ### built-in functions of data -/
def rCd (g : List D → Option D) : List V → Hp → VK → Prop := fun vs H Q => ∃ Hf ds d, g ds = some d ∧ Ex Hf H ∧ Lvs Hf H vs ds ∧ ∀ v Hf' H', Gw Hf H Hf' H' → Dd Hf' v d → Q v H'
where Lvs (Hf H : Hp) : List V → List D → Prop
  | [], [] => True
  | v :: vs, d :: ds => Lv Hf H v d ∧ Lvs Hf H vs ds
  | _, _ => False
def vws : List S → Store → Option (List D)
  | [], _ => some []
  | s :: r, cs => match vw s cs, vws r cs with
    | some d, some ds => some (d :: ds)
    | _, _ => none
def vwsM (ss : List S) : M (List D) := fun cs => match vws ss cs with
  | some ds => .ok ds cs
  | none => .no
def eCd (g : List D → Option D) (f : List S → M (List S)) (ρ : List S) : M S := bnd (f ρ) fun ss => bnd (vwsM ss) fun ds => bnd (ofO (g ds)) fun d => ret (.d d)
theorem vwsM_ {X : Cx} {W : WX} {B : Hp} {ca : List Addr} {Hf : Hp} {ρ : List S} {σ : L2.St} {cs : Store} {β : Type} {P : List Addr → Hp → Hp → Store → β → Prop} {a : List S} {k : List D → M β} (h : Gs X W B ca Hf ρ σ (bnd (vwsM a) k cs) P) : ∃ d, vws a cs = some d ∧ Gs X W B ca Hf ρ σ (k d cs) P := by
  unfold bnd vwsM at h
  cases e : vws a cs with
  | none => rw [e] at h; exact h.elim
  | some d => rw [e] at h; exact ⟨d, rfl, h⟩
theorem vws_ok {B : Hp} {ca : List Addr} {ρ : List S} {cs : Store} {Hf : Hp} {σ : L2.St} {H : Hp} (r : Rel B ca ρ cs Hf σ H) : ∀ {ss : List S} {vs : List V} {ds : List D}, SvsOk ca Hf ss vs → vws ss cs = some ds → rCd.Lvs Hf H vs ds
  | [], _, ds, h, e => by
    have : [] = ds := Option.some.inj e
    subst this
    cases h
    trivial
  | s :: ss, _, ds, h, e => by
    cases h with
    | cons h t =>
      unfold vws at e
      split at e
      · rename_i d ds' e1 e2
        cases e
        exact ⟨vw_ok r h e1, vws_ok r t e2⟩
      · cases e
section
variable {X : Cx} {W : WX} {a b e : Expr} {es : List Expr} {fa fb : List S → M S} {g : List S → M (List S)} {pos : Pos}
theorem eCd_run {gd : List D → Option D} {t : TA} (k : KA X W t g) {B : Hp} {ca : List Addr} {ρ : List S} {cs : Store} {Hf : Hp} {σ : L2.St} {H : Hp} {Q : VK} (r : Rel B ca ρ cs Hf σ H)
    (h : Gs X W B ca Hf ρ σ (eCd gd g ρ cs) (fun ca' Hf' H' _ s => ∀ v, SvOk ca' Hf' s v → Q v H')) : tCB (rCd gd) t σ H Q := by
  refine k B ca ρ cs Hf σ H _ r (h.bind.mono fun ca1 Hf1 H1 cs1 ss n1 r1 h1 vs hvs => ?_)
  obtain ⟨ds, e1, h2⟩ := vwsM_ h1
  obtain ⟨d, e2, h3⟩ := ofOb_ h2
  refine ⟨Hf1, ds, d, e2, r1.ext, vws_ok r1 hvs e1, fun v Hf2 H2 g2 dv => ?_⟩
  obtain ⟨r3, n3⟩ := r1.gw g2
  exact h3 ca1 Hf2 H2 n3 r3 v dv
theorem de_callB {x : Str} {id : String} {p : Pos} {gd : List D → Option D} (hc : CallR X (.builtin id) (rCd gd)) (hm : X.mg x = none) (hv : bootBuiltins x = some (.builtin id)) (ha : DA X W (e :: es) g) (hg : Gl X x := by rfl) (hn : x ≠ "__name__" := by decide) (hdb : (x == ("__debug__" : Str)) = false := by decide)
    (he : starEach (e :: es) X.env = (false, eval e X.env) :: starEach es X.env := by rfl) (hpl : (backTo pos (starEach es X.env)).any (·.1) = false := by rfl) : DE X W (.Call (.Name x p) (e :: es) [] pos) (eCd gd g) := by
  obtain ⟨tr, pr, kr⟩ := ha
  exact ⟨_, pe_callB hc hg hm hv pr hn hdb he hpl, fun B ca ρ cs Hf σ H Q r h => eCd_run kr r h⟩
theorem de_callT {x : Str} {T : String} {p : Pos} {gd : List D → Option D} (hc : CallR X (.type T) (rCd gd)) (hm : X.mg x = none) (hv : bootBuiltins x = some (.type T)) (ha : DA X W (e :: es) g) (hg : Gl X x := by rfl) (hn : x ≠ "__name__" := by decide) (hdb : (x == ("__debug__" : Str)) = false := by decide)
    (he : starEach (e :: es) X.env = (false, eval e X.env) :: starEach es X.env := by rfl) (hpl : (backTo pos (starEach es X.env)).any (·.1) = false := by rfl) : DE X W (.Call (.Name x p) (e :: es) [] pos) (eCd gd g) := by
  obtain ⟨tr, pr, kr⟩ := ha
  exact ⟨_, pe_callTy hc hg hm hv pr hn hdb he hpl, fun B ca ρ cs Hf σ H Q r h => eCd_run kr r h⟩
end
def lenG : List D → Option D
  | [d] => (lenD d).map fun n => .int n
  | _ => none
def minG : List D → Option D
  | [.int i, .int j] => some (.int (if j < i then j else i))
  | _ => none
def maxG : List D → Option D
  | [.int i, .int j] => some (.int (if j > i then j else i))
  | _ => none
def absG : List D → Option D
  | [.int i] => some (.int (if i < 0 then -i else i))
  | _ => none
def intG : List D → Option D
  | [.int i] => some (.int i)
  | [.bool b] => some (.int (if b then 1 else 0))
  | _ => none
def listG : List D → Option D
  | [.list xs] => some (.list xs)
  | [.tuple xs] => some (.list xs)
  | _ => none
def tupleG : List D → Option D
  | [.list xs] => some (.tuple xs)
  | [.tuple xs] => some (.tuple xs)
  | _ => none
section
variable {X : Cx}
theorem lvs_one {Hf H : Hp} {vs : List V} {d : D} (h : rCd.Lvs Hf H vs [d]) : ∃ v, vs = [v] ∧ Lv Hf H v d := by
  match vs, h with
  | [v], h => exact ⟨v, rfl, h.1⟩
  | v :: _ :: _, h => exact h.2.elim
theorem lvs_two {Hf H : Hp} {vs : List V} {d d' : D} (h : rCd.Lvs Hf H vs [d, d']) : ∃ v v', vs = [v, v'] ∧ Lv Hf H v d ∧ Lv Hf H v' d' := by
  match vs, h with
  | [v, v'], h => exact ⟨v, v', rfl, h.1, h.2.1⟩
  | [_], h => exact h.2.elim
  | _ :: _ :: _ :: _, h => exact h.2.2.elim
theorem len_ok : CallR X (.builtin "len") (rCd lenG) := by
  intro pins s σ H xs us Q I r h
  obtain ⟨Hf, ds, d, e, ex, hl, q⟩ := h
  unfold lenG at e
  split at e
  · rename_i d0
    obtain ⟨v, rfl, hv⟩ := lvs_one hl
    cases z : lenD d0 with
    | none => rw [z] at e; cases e
    | some n =>
      rw [z] at e
      cases e
      refine call_len pins s σ H _ us Q I r ⟨v, n, rfl, ?_, q _ _ _ (Gw.refl ex) (.int _)⟩
      have d1 := hv.1
      cases d1 with
      | str x =>
        have z' : (if x.length ≤ sizeLine then some x.length else none) = some n := z
        split at z'
        · cases z'; exact ⟨by assumption, rfl⟩
        · cases z'
      | lst h a => cases z; exact .inl ⟨_, .inl h, (dps_len a).symm⟩
      | tup h a => cases z; exact .inr ⟨_, .inl h, (dps_len a).symm⟩
      | _ => cases z
  · cases e
theorem min_ok (hc : X.calm = true) : CallR X (.builtin "min") (rCd minG) := by
  intro pins s σ H xs us Q I r h
  obtain ⟨Hf, ds, d, e, ex, hl, q⟩ := h
  unfold minG at e
  split at e
  · cases e
    obtain ⟨v, v', rfl, h1, h2⟩ := lvs_two hl
    have := h1.int_; subst this
    have := h2.int_; subst this
    exact call_min2 hc pins s σ H _ us Q I r ⟨_, _, rfl, q _ _ _ (Gw.refl ex) (.int _)⟩
  · cases e
theorem max_ok (hc : X.calm = true) : CallR X (.builtin "max") (rCd maxG) := by
  intro pins s σ H xs us Q I r h
  obtain ⟨Hf, ds, d, e, ex, hl, q⟩ := h
  unfold maxG at e
  split at e
  · cases e
    obtain ⟨v, v', rfl, h1, h2⟩ := lvs_two hl
    have := h1.int_; subst this
    have := h2.int_; subst this
    exact call_max2 hc pins s σ H _ us Q I r ⟨_, _, rfl, q _ _ _ (Gw.refl ex) (.int _)⟩
  · cases e
theorem abs_ok : CallR X (.builtin "abs") (rCd absG) := by
  intro pins s σ H xs us Q I r h
  obtain ⟨Hf, ds, d, e, ex, hl, q⟩ := h
  unfold absG at e
  split at e
  · cases e
    obtain ⟨v, rfl, h1⟩ := lvs_one hl
    have := h1.int_; subst this
    exact call_abs pins s σ H _ us Q I r ⟨_, rfl, q _ _ _ (Gw.refl ex) (.int _)⟩
  · cases e
theorem int_ok : CallR X (.type "int") (rCd intG) := by
  intro pins s σ H xs us Q I r h
  obtain ⟨Hf, ds, d, e, ex, hl, q⟩ := h
  unfold intG at e
  split at e
  · cases e
    obtain ⟨v, rfl, h1⟩ := lvs_one hl
    have := h1.int_; subst this
    exact call_int1 pins s σ H _ us Q I r (.inl ⟨_, rfl, q _ _ _ (Gw.refl ex) (.int _)⟩)
  · cases e
    obtain ⟨v, rfl, h1⟩ := lvs_one hl
    have := h1.bl_; subst this
    exact call_int1 pins s σ H _ us Q I r (.inr ⟨_, rfl, q _ _ _ (Gw.refl ex) (.int _)⟩)
  · cases e
theorem list_ok : CallR X (.type "list") (rCd listG) := by
  intro pins s σ H xs us Q I r h
  obtain ⟨Hf, ds, d, e, ex, hl, q⟩ := h
  unfold listG at e
  split at e
  · cases e
    obtain ⟨v, rfl, h1⟩ := lvs_one hl
    obtain ⟨a, vs, rfl, g1, g2⟩ := h1.lst
    refine call_list_of pins s σ H _ us Q I r ⟨a, vs, rfl, .inl (.inl g1), fun l hl => ?_⟩
    have g := Gw.new (o := .lst vs) ex hl
    exact q _ _ _ g (.lst (.inl upd_same) (dps_ex g.ex g2))
  · cases e
    obtain ⟨v, rfl, h1⟩ := lvs_one hl
    obtain ⟨a, vs, rfl, g1, g2⟩ := h1.tup
    refine call_list_of pins s σ H _ us Q I r ⟨a, vs, rfl, .inr (.inl g1), fun l hl => ?_⟩
    have g := Gw.new (o := .lst vs) ex hl
    exact q _ _ _ g (.lst (.inl upd_same) (dps_ex g.ex g2))
  · cases e
theorem tuple_ok : CallR X (.type "tuple") (rCd tupleG) := by
  intro pins s σ H xs us Q I r h
  obtain ⟨Hf, ds, d, e, ex, hl, q⟩ := h
  unfold tupleG at e
  split at e
  · cases e
    obtain ⟨v, rfl, h1⟩ := lvs_one hl
    obtain ⟨a, vs, rfl, g1, g2⟩ := h1.lst
    refine call_tuple_of pins s σ H _ us Q I r ⟨a, vs, rfl, .inl ⟨.inl g1, fun l hl => ?_⟩⟩
    have g := Gw.new (o := .tup vs) ex hl
    exact q _ _ _ g (.tup (.inl upd_same) (dps_ex g.ex g2))
  · cases e
    obtain ⟨v, rfl, h1⟩ := lvs_one hl
    obtain ⟨a, vs, rfl, g1, g2⟩ := h1.tup
    exact call_tuple_of pins s σ H _ us Q I r ⟨a, vs, rfl, .inr ⟨.inl g1, q _ _ _ (Gw.refl ex) (h1.flat fun _ z => nomatch z)⟩⟩
  · cases e
/-- isinstance(x, T), T a built-in class -/
def eIsa (T : String) (fa : List S → M S) (ρ : List S) : M S := bnd (op1 (fun d => some (isaD T d)) fa ρ) fun b => ret (.d (.bool b))
theorem kit_isa {K : PySem.W.Frag} {H : Hp} {v : V} {d : D} {T : String} (h : Dd H v d) (hT : T = "int" ∨ T = "bool" ∨ T = "str" ∨ T = "list" ∨ T = "tuple" ∨ T = "dict") : PySem.W.kitOne K (.type (tyD d)) (.type T) = some (isaD T d) := by
  cases h <;> rcases hT with rfl | rfl | rfl | rfl | rfl | rfl <;> (refine kit_ty ?_; first | decide +kernel | rfl)
theorem de_isa {W : WX} {a : Expr} {fa : List S → M S} {p p2 pos : Pos} {T : String} {TS : Str} (ha : DE X W a fa) (hm : X.mg "isinstance" = none) (hmT : X.mg TS = none) (hT : T = "int" ∨ T = "bool" ∨ T = "str" ∨ T = "list" ∨ T = "tuple" ∨ T = "dict") (hv : bootBuiltins TS = some (.type T)) (hg : Gl X "isinstance" := by rfl) (hgT : Gl X TS := by rfl)
    (hn : TS ≠ "__name__" := by decide) (hdb : (TS == ("__debug__" : Str)) = false := by decide)
    (h1 : starEach [a, .Name TS p2] X.env = (false, eval a X.env) :: starEach [.Name TS p2] X.env := by rfl) (h2 : starEach [.Name TS p2] X.env = (false, eval (.Name TS p2) X.env) :: starEach [] X.env := by rfl) (h3 : (backTo pos (starEach [.Name TS p2] X.env)).any (·.1) = false := by rfl) :
    DE X W (.Call (.Name "isinstance" p) [a, .Name TS p2] [] pos) (eIsa T fa) := by
  obtain ⟨ta, pa, ka⟩ := ha
  refine ⟨_, pe_callB call_isi hg hm (by decide +kernel) (pa_cons pa (pa_cons (pe_bltn (v := .ty T) hgT hmT hv rfl hn hdb) pa_nil h2) h1) (by decide) (by decide) h1 h3, fun B ca ρ cs Hf σ H Q r h => ?_⟩
  refine op1_run ka r h fun ca2 Hf2 H2 cs2 x da z n2 r2 hx hz h2 => ?_
  cases hz
  exact ⟨x, .ty T, _, _, _, rfl, .ty T, ty_dd hx.1, kit_isa hx.1 hT, h2.ret_ r2 _ (.bl _)⟩
end
end Dn

set_option Elab.async false
set_option linter.all false
set_option maxRecDepth 100000
set_option maxHeartbeats 1000000
/-! Dn5: statements, loops, defs, calls. -/
namespace Dn
open PySem L2
inductive Out where
  | nx (ρ : List S) (cs : Store)
  | rt (r : Rv) (cs : Store)
  | bk (ρ : List S) (cs : Store)
  | ct (ρ : List S) (cs : Store)
  | er (c : Str) (ρ : List S) (cs : Store)
  | no
abbrev G := List S → Store → Out
section
variable (X : Cx) (W : WX)
def GO (B : Hp) (ca : List Addr) (Hf : Hp) (En : Ends) : Out → Prop
  | .nx ρ cs => ∀ ca' Hf' σ' H', Nx ca Hf ca' Hf' → Rel B ca' ρ cs Hf' σ' H' → En.nx σ' H'
  | .rt r cs => ∀ ca' Hf' ρ' σ' H' v, Nx ca Hf ca' Hf' → Rel B ca' ρ' cs Hf' σ' H' → RvOk B ca' Hf' H' r v → En.rt v H'
  | .bk ρ cs => ∀ ca' Hf' σ' H', Nx ca Hf ca' Hf' → Rel B ca' ρ cs Hf' σ' H' → En.bk σ' H'
  | .ct ρ cs => ∀ ca' Hf' σ' H', Nx ca Hf ca' Hf' → Rel B ca' ρ cs Hf' σ' H' → En.ct σ' H'
  | .er c ρ cs => ∀ ca' Hf' σ' H' cls, Nx ca Hf ca' Hf' → Rel B ca' ρ cs Hf' σ' H' → X.mg c = some cls → W cls none σ' H'
  | .no => False
abbrev KS (t : TS) (g : G) : Prop := ∀ (B : Hp) (ca : List Addr) (ρ : List S) (cs : Store) (Hf : Hp) (σ : L2.St) (H : Hp) (En : Ends), Rel B ca ρ cs Hf σ H → GO X W B ca Hf En (g ρ cs) → t En σ H
def DSt (st : Stmt) (g : G) : Prop := ∃ t : TS, PS X st t ∧ KS X W t g
def DSs (st : List Stmt) (g : G) : Prop := ∃ t : TS, PSs X st t ∧ KS X W t g
end
def stp {α : Type} (m : M α) (k : α → Store → Out) (ρ : List S) (cs : Store) : Out := match m cs with
  | .ok a cs' => k a cs'
  | .er c cs' => .er c ρ cs'
  | .no => .no
def gNil : G := fun ρ cs => .nx ρ cs
def gSeq (g h : G) : G := fun ρ cs => match g ρ cs with
  | .nx ρ' cs' => h ρ' cs'
  | o => o
def sSet (i : Nat) (f : List S → M S) : G := fun ρ => stp (f ρ) (fun s cs => .nx (ρ.set i s) cs) ρ
def sNew (i : Nat) (f : List S → M Rv) : G := fun ρ => stp (f ρ) (fun r cs => match r with
  | .own o => .nx (ρ.set i (.cel cs.length)) (cs ++ [o])
  | .d x => .nx (ρ.set i (.d x)) cs
  | .cel j => .nx (ρ.set i (.cel j)) cs) ρ
def sRet (f : List S → M Rv) : G := fun ρ => stp (f ρ) (fun r cs => .rt r cs) ρ
def sRetN : G := fun _ cs => .rt (.d .none) cs
def sExp (f : List S → M S) : G := fun ρ => stp (f ρ) (fun _ cs => .nx ρ cs) ρ
def sIf (t : List S → M Bool) (g h : G) : G := fun ρ => stp (t ρ) (fun b cs => if b = true then g ρ cs else h ρ cs) ρ
def sErr (c : Str) : G := fun ρ cs => .er c ρ cs
def gPass : G := fun ρ cs => .nx ρ cs
def gBrk : G := fun ρ cs => .bk ρ cs
def gCon : G := fun ρ cs => .ct ρ cs
def gNo : G := fun _ _ => .no
section
variable {X : Cx} {W : WX} {B : Hp} {ca ca1 : List Addr} {Hf Hf1 H : Hp} {ρ : List S} {σ : L2.St} {cs : Store} {En En' : Ends} {α : Type}
theorem GO.fwd {o : Out} (h : GO X W B ca Hf En o) (n : Nx ca Hf ca1 Hf1) : GO X W B ca1 Hf1 En o := by
  cases o with
  | nx ρ cs => exact fun ca' Hf' σ' H' n' r => h ca' Hf' σ' H' (n.trans n') r
  | rt v cs => exact fun ca' Hf' ρ' σ' H' v n' r => h ca' Hf' ρ' σ' H' v (n.trans n') r
  | bk ρ cs => exact fun ca' Hf' σ' H' n' r => h ca' Hf' σ' H' (n.trans n') r
  | ct ρ cs => exact fun ca' Hf' σ' H' n' r => h ca' Hf' σ' H' (n.trans n') r
  | er c ρ cs => exact fun ca' Hf' σ' H' cls n' r => h ca' Hf' σ' H' cls (n.trans n') r
  | no => exact h
theorem GO.stp_ {m : M α} {k : α → Store → Out} (h : GO X W B ca Hf En (stp m k ρ cs)) : Gs X W B ca Hf ρ σ (m cs) (fun ca1 Hf1 _ cs1 a => GO X W B ca1 Hf1 En (k a cs1)) := by
  unfold stp at h
  cases e : m cs with
  | ok a cs1 => rw [e] at h; exact fun ca1 Hf1 H1 n r => GO.fwd h n
  | er c cs1 => rw [e] at h; exact fun ca' Hf' H' cls n r => h ca' Hf' σ H' cls n r
  | no => rw [e] at h; exact h
theorem GO.nx_ (h : GO X W B ca Hf En (.nx ρ cs)) (r : Rel B ca ρ cs Hf σ H) : En.nx σ H := h ca Hf σ H Nx.refl r
end
section
variable {X : Cx} {W : WX} {st : Stmt} {sts : List Stmt} {g h : G} {a : Expr} {f : List S → M S} {fr : List S → M Rv} {pos : Pos}
theorem dss_nil : DSs X W [] gNil := ⟨_, pss_nil, fun B ca ρ cs Hf σ H En r h => h.nx_ r⟩
theorem dss_one (hs : DSt X W st g) : DSs X W [st] g := let ⟨t, p, k⟩ := hs; ⟨t, pss_one p, k⟩
theorem dss_cons (hs : DSt X W st g) (ht : DSs X W sts h) : DSs X W (st :: sts) (gSeq g h) := by
  obtain ⟨t, p, k⟩ := hs
  obtain ⟨u, q, l⟩ := ht
  refine ⟨_, pss_cons p q, fun B ca ρ cs Hf σ H En r hg => ?_⟩
  refine k B ca ρ cs Hf σ H { En with nx := u En } r ?_
  unfold gSeq at hg
  cases e : g ρ cs with
  | nx ρ' cs' => rw [e] at hg; exact fun ca' Hf' σ' H' n r' => l B ca' ρ' cs' Hf' σ' H' En r' (GO.fwd hg n)
  | rt v cs' => rw [e] at hg; exact hg
  | bk ρ' cs' => rw [e] at hg; exact hg
  | ct ρ' cs' => rw [e] at hg; exact hg
  | er c ρ' cs' => rw [e] at hg; exact hg
  | no => rw [e] at hg; exact hg
theorem dst_pass : DSt X W (.Pass pos) gPass := ⟨_, ps_pass, fun B ca ρ cs Hf σ H En r h => h.nx_ r⟩
theorem dst_brk : DSt X W (.Break pos) gBrk := ⟨_, ps_break, fun B ca ρ cs Hf σ H En r h => h ca Hf σ H Nx.refl r⟩
theorem dst_con : DSt X W (.Continue pos) gCon := ⟨_, ps_continue, fun B ca ρ cs Hf σ H En r h => h ca Hf σ H Nx.refl r⟩
theorem dst_no : DSt X W st gNo := ⟨_, ps_never, fun B ca ρ cs Hf σ H En r h => h.elim⟩
theorem dst_set (i : Nat) {x : Str} {pos' : Pos} (hN : X.N.Nodup) (ha : DE X W a f) (hi : X.N[i]? = some x := by rfl) (hx : Loc X.env.scope x := by first | exact Or.inl rfl | exact Or.inr rfl) (hs : swapsWith a (some (.Name x pos')) pos.line X.env = pure false := by rfl)
    (hf : X.fn x = true ∨ X.env.scope.names.lookup x = some .local := by first | exact .inl rfl | exact .inr rfl) : DSt X W (.Assign [.Name x pos'] a pos) (sSet i f) := by
  obtain ⟨t, p, k⟩ := ha
  refine ⟨_, ps_set hN hi hx p hs hf, fun B ca ρ cs Hf σ H En r hg => ?_⟩
  refine k B ca ρ cs Hf σ H _ r (hg.stp_.mono fun ca1 Hf1 H1 cs1 s n1 r1 h1 v hv => ?_)
  exact h1.nx_ (r1.set i hv)
theorem dst_new (i : Nat) {x : Str} {pos' : Pos} (hN : X.N.Nodup) (ha : DO X W a fr) (hi : X.N[i]? = some x := by rfl) (hx : Loc X.env.scope x := by first | exact Or.inl rfl | exact Or.inr rfl) (hs : swapsWith a (some (.Name x pos')) pos.line X.env = pure false := by rfl)
    (hf : X.fn x = true ∨ X.env.scope.names.lookup x = some .local := by first | exact .inl rfl | exact .inr rfl) : DSt X W (.Assign [.Name x pos'] a pos) (sNew i fr) := by
  obtain ⟨t, p, k⟩ := ha
  refine ⟨_, ps_set hN hi hx p hs hf, fun B ca ρ cs Hf σ H En r hg => ?_⟩
  refine k B ca ρ cs Hf σ H _ r (hg.stp_.mono fun ca1 Hf1 H1 cs1 rv n1 r1 h1 v hv => ?_)
  cases rv with
  | d x => exact h1.nx_ (r1.set (s := .d x) i hv)
  | cel j => exact h1.nx_ (r1.set (s := .cel j) i hv)
  | own o =>
    obtain ⟨a, rfl, r2, e2⟩ := r1.alloc hv
    exact h1 (ca1 ++ [a]) Hf1 _ H1 ⟨List.prefix_append _ _, fun _ _ h => h⟩ (r2.set (s := .cel cs1.length) i ⟨a, e2, rfl⟩)
theorem dst_ret (ha : DO X W a fr) : DSt X W (.Return (some a) pos) (sRet fr) := by
  obtain ⟨t, p, k⟩ := ha
  refine ⟨_, ps_ret p, fun B ca ρ cs Hf σ H En r hg => ?_⟩
  exact k B ca ρ cs Hf σ H _ r (hg.stp_.mono fun ca1 Hf1 H1 cs1 rv n1 r1 h1 v hv => h1 ca1 Hf1 ρ σ H1 v Nx.refl r1 hv)
theorem dst_retE (ha : DE X W a f) : DSt X W (.Return (some a) pos) (sRet (eRv f)) := dst_ret ha.rv
theorem dst_retN : DSt X W (.Return none pos) sRetN := ⟨_, ps_retN, fun B ca ρ cs Hf σ H En r h => h ca Hf ρ σ H _ Nx.refl r .non⟩
theorem dst_exp (ha : DE X W a f) (hs : swapsWith a none pos.line X.env = pure false := by rfl) : DSt X W (.Expr a pos) (sExp f) := by
  obtain ⟨t, p, k⟩ := ha
  refine ⟨_, ps_expr p hs, fun B ca ρ cs Hf σ H En r hg => ?_⟩
  exact k B ca ρ cs Hf σ H _ r (hg.stp_.mono fun ca1 Hf1 H1 cs1 rv n1 r1 h1 v hv => h1.nx_ r1)
theorem dst_if {t : List S → M Bool} {p q : List Stmt} (hc : DT X W a t) (hp : DSs X W p g) (hq : DSs X W q h) : DSt X W (.If a p q pos) (sIf t g h) := by
  obtain ⟨tc, pc, kc⟩ := hc
  obtain ⟨tp, pp, kp⟩ := hp
  obtain ⟨tq, pq, kq⟩ := hq
  refine ⟨_, ps_if pc pp pq, fun B ca ρ cs Hf σ H En r hg => ?_⟩
  refine kc B ca ρ cs Hf σ H _ r (hg.stp_.mono fun ca1 Hf1 H1 cs1 b n1 r1 h1 => ?_)
  cases b with
  | true => exact kp B ca1 ρ cs1 Hf1 σ H1 En r1 h1
  | false => exact kq B ca1 ρ cs1 Hf1 σ H1 En r1 h1
/-- raise X('..') -/
theorem dst_raise {C : Addr} {x m : Str} {j : Nat} {p p2 p3 : Pos} {bmB : List Value} {Bn newId initId : String} (tk : Takes X W) (F : ExcBaseFacts Bn newId initId bmB) (q : PySem.W.excIn X.K C bmB newId = true) (gC : X.mg x = some (.ref C)) (kC : PySem.W.keepIn X.K (.ref C) = true) (rs : Raises X (.ref C))
    (hc : X.calm = true := by rfl) (hg : Gl X x := by rfl) (hdb : (x == ("__debug__" : Str)) = false := by decide) : DSt X W (.Raise (some (.Call (.Name x p) [.Constant (.str m) j p2] [] p3)) none pos) (sErr x) :=
  ⟨_, ps_raise hc tk (pmk_own F q gC kC rs hg hdb), fun B ca ρ cs Hf σ H En r h => h ca Hf σ H _ Nx.refl r gC⟩
end

/-! ### loops -/
def gFor (tg : D → List S → Option (List S)) (body : G) : List D → G
  | [], ρ, cs => .nx ρ cs
  | x :: xs, ρ, cs => match tg x ρ with
    | none => .no
    | some ρ1 => match body ρ1 cs with
      | .nx ρ' cs' => gFor tg body xs ρ' cs'
      | .ct ρ' cs' => gFor tg body xs ρ' cs'
      | .bk ρ' cs' => .nx ρ' cs'
      | .rt r cs' => .rt r cs'
      | .er c ρ' cs' => .er c ρ' cs'
      | .no => .no
/-- a target -/
def DG (X : Cx) (tg : Expr) (g : D → List S → Option (List S)) : Prop := ∃ t : TG, PG X tg t ∧ ∀ (B : Hp) (ca : List Addr) (ρ ρ' : List S) (cs : Store) (Hf : Hp) (σ : L2.St) (H : Hp) (v : V) (d : D) (Q : L2.St → Hp → Prop), Rel B ca ρ cs Hf σ H → Dd Hf v d → g d ρ = some ρ' →
  (∀ σ', Rel B ca ρ' cs Hf σ' H → Q σ' H) → t v σ H Q
def gtN (i : Nat) (d : D) (ρ : List S) : Option (List S) := some (ρ.set i (.d d))
def gtT (gs : List D → List S → Option (List S)) (d : D) (ρ : List S) : Option (List S) := match d with
  | .tuple xs => gs xs ρ
  | _ => none
def gtsNil (xs : List D) (ρ : List S) : Option (List S) := match xs with
  | [] => some ρ
  | _ => none
def gtsCons (g : D → List S → Option (List S)) (gs : List D → List S → Option (List S)) (xs : List D) (ρ : List S) : Option (List S) := match xs with
  | x :: r => (g x ρ).bind (gs r)
  | [] => none
def DGs (X : Cx) (tgs : List Expr) (g : List D → List S → Option (List S)) : Prop := ∃ t : TGs, PGs X tgs t ∧ ∀ (B : Hp) (ca : List Addr) (ρ ρ' : List S) (cs : Store) (Hf : Hp) (σ : L2.St) (H : Hp) (vs : List V) (ds : List D) (Q : L2.St → Hp → Prop), Rel B ca ρ cs Hf σ H → Dds Hf vs ds → g ds ρ = some ρ' →
  (∀ σ', Rel B ca ρ' cs Hf σ' H → Q σ' H) → t vs σ H Q
section
variable {X : Cx} {pos : Pos}
theorem dg_name (i : Nat) {x : Str} (hN : X.N.Nodup) (hi : X.N[i]? = some x := by rfl) (hx : Loc X.env.scope x := by first | exact Or.inl rfl | exact Or.inr rfl)
    (hf : X.fn x = true ∨ X.env.scope.names.lookup x = some .local := by first | exact .inl rfl | exact .inr rfl) : DG X (.Name x pos) (gtN i) := by
  refine ⟨_, pg_name hN hi hx hf, fun B ca ρ ρ' cs Hf σ H v d Q r hv e q => ?_⟩
  cases e
  exact q _ (r.set i hv)
theorem dgs_nil : DGs X [] gtsNil := by
  refine ⟨_, pgs_nil, fun B ca ρ ρ' cs Hf σ H vs ds Q r hv e q => ?_⟩
  unfold gtsNil at e
  split at e
  · cases e
    cases hv
    exact ⟨rfl, q _ r⟩
  · cases e
theorem dgs_cons {tg : Expr} {tgs : List Expr} {g : D → List S → Option (List S)} {gs : List D → List S → Option (List S)} (h : DG X tg g) (hs : DGs X tgs gs)
    (he : (assignEach (tg :: tgs) X.env).map (·.2) = assign tg X.env :: (assignEach tgs X.env).map (·.2) := by rfl) : DGs X (tg :: tgs) (gtsCons g gs) := by
  obtain ⟨t, p, k⟩ := h
  obtain ⟨u, q, l⟩ := hs
  refine ⟨_, pgs_cons p q he, fun B ca ρ ρ' cs Hf σ H vs ds Q r hv e qq => ?_⟩
  unfold gtsCons at e
  split at e
  · rename_i x xs
    cases hv with
    | cons hv ht =>
      cases z : g x ρ with
      | none => rw [z] at e; cases e
      | some ρ1 =>
        rw [z] at e
        exact ⟨_, _, rfl, k B ca ρ ρ1 cs Hf σ H _ _ _ r hv z fun σ1 r1 => l B ca ρ1 ρ' cs Hf σ1 H _ _ Q r1 ht e qq⟩
  · cases e
theorem dg_tup {es : List Expr} {k : Nat} {gs : List D → List S → Option (List S)} (n : Nat) (hs : DGs X es gs) (hl : ∀ ds ρ ρ', gs ds ρ = some ρ' → ds.length = n) (hc : X.calm = true := by rfl)
    (hn : (assignEach es X.env).length = n := by rfl) (hst : (assignEach es X.env).findIdx? (·.1) = none := by rfl) : DG X (.Tuple es k pos) (gtT gs) := by
  obtain ⟨u, q, l⟩ := hs
  refine ⟨_, pg_tup hc q hn hst, fun B ca ρ ρ' cs Hf σ H v d Q r hv e qq => ?_⟩
  unfold gtT at e
  split at e
  · rename_i xs
    cases hv with
    | tup h1 h2 =>
      exact ⟨_, _, rfl, .inl (rd_ex r.ext h1), (dps_len h2).trans (hl _ _ _ e), l B ca ρ ρ' cs Hf σ H _ _ Q r h2 e qq⟩
  · cases e
end
theorem gts_len0 (ds : List D) (ρ ρ' : List S) (h : gtsNil ds ρ = some ρ') : ds.length = 0 := by
  unfold gtsNil at h
  split at h
  · rfl
  · cases h
theorem gts_lenS {g : D → List S → Option (List S)} {gs : List D → List S → Option (List S)} {n : Nat} (hl : ∀ ds ρ ρ', gs ds ρ = some ρ' → ds.length = n) (ds : List D) (ρ ρ' : List S) (h : gtsCons g gs ds ρ = some ρ') : ds.length = n + 1 := by
  unfold gtsCons at h
  split at h
  · rename_i x r
    cases z : g x ρ with
    | none => rw [z] at h; cases h
    | some ρ1 => rw [z] at h; rw [List.length_cons, hl _ _ _ h]
  · cases h

/-- what is walked: the items are given ahead of the first turn -/
def DI (X : Cx) (W : WX) (tg iter : Expr) (f : List S → M (List D)) : Prop := ∃ wi : TI, PI X tg iter wi ∧ ∀ (B : Hp) (ca : List Addr) (ρ : List S) (cs : Store) (Hf : Hp) (σ : L2.St) (H : Hp) (R : It → Hp → Prop), Rel B ca ρ cs Hf σ H →
  Gs X W B ca Hf ρ σ (f ρ cs) (fun ca' Hf' H' cs' xs => ∀ J, (∀ ca2 ρ2 cs2 Hf2 σ2 H2 (i : Nat), Nx ca' Hf' ca2 Hf2 → Rel B ca2 ρ2 cs2 Hf2 σ2 H2 → i ≤ xs.length →
      (i = xs.length → J.stop i H2) ∧ (i < xs.length → J.go i H2 ∧ ∀ x H3, J.yld i H2 x H3 → ∃ Hf3, Nx ca2 Hf2 ca2 Hf3 ∧ Rel B ca2 ρ2 cs2 Hf3 σ2 H3 ∧ ∃ d, xs[i]? = some d ∧ Dd Hf3 x d)) → R J H') → wi σ H R
def iSeq (f : List S → M S) (ρ : List S) : M (List D) := bnd (f ρ) fun s => match s with
  | .d (.list xs) => ret xs
  | _ => stuck
def iTupM (f : List S → M S) (ρ : List S) : M (List D) := bnd (f ρ) fun s => match s with
  | .d (.tuple xs) => ret xs
  | _ => stuck
def rngD (lo : Int) (n : Nat) : List D := (List.range n).map fun i => .int (lo + (i : Nat))
def iRng (f : List S → M S) (ρ : List S) : M (List D) := bnd (f ρ) fun s => match s with
  | .d (.int j) => if -(2 ^ 62) ≤ j ∧ j < 2 ^ 62 then ret (rngD 0 j.toNat) else stuck
  | _ => stuck
def iRngTwo (f g : List S → M S) (ρ : List S) : M (List D) := bnd (f ρ) fun s => bnd (g ρ) fun s' => match s, s' with
  | .d (.int i), .d (.int j) => if -(2 ^ 62) ≤ i ∧ i < 2 ^ 62 ∧ -(2 ^ 62) ≤ j ∧ j < 2 ^ 62 then ret (rngD i (j - i).toNat) else stuck
  | _, _ => stuck
theorem rngD_get {lo : Int} {n i : Nat} (h : i < n) : (rngD lo n)[i]? = some (.int (lo + (i : Nat))) := by
  unfold rngD
  rw [List.getElem?_map, List.getElem?_range h]; rfl
theorem rngD_len {lo : Int} {n : Nat} : (rngD lo n).length = n := by unfold rngD; simp
section
variable {X : Cx} {W : WX} {a b tg : Expr} {fa fb : List S → M S} {pos : Pos}
theorem rdl_inj {Hh : Hp} {a : Addr} {xs ys : List V} (h : Rd Hh a (.lst xs)) (h' : SqL X.K Hh a ys) (I : ∀ K : PySem.W.Frag, True) : True := trivial
theorem di_list (ha : DE X W a fa) : DI X W tg a (iSeq fa) := by
  obtain ⟨t, p, k⟩ := ha
  refine ⟨_, pi_list p, fun B ca ρ cs Hf σ H R r h => ?_⟩
  refine k B ca ρ cs Hf σ H _ r (h.bind.mono fun ca1 Hf1 H1 cs1 s n1 r1 h1 v hv => ?_)
  cases s with
  | d x =>
    cases x with
    | list xs =>
      have hv' : Dd Hf1 v (.list xs) := hv
      cases hv' with
      | lst g1 g2 =>
        rename_i l vs
        refine ⟨l, rfl, ⟨vs, .inl (rd_ex r1.ext g1)⟩, ?_⟩
        refine (h1.ret_ r1) _ fun ca2 ρ2 cs2 Hf2 σ2 H2 i n2 r2 hi => ⟨fun e => ⟨vs, .inl (rd_ex (fun a o h => r2.ext a o (n2.ex a o h)) g1), by rw [dps_len g2]; omega⟩, fun hi' => ?_⟩
        have hx : xs[i]? = some xs[i] := by simp [hi']
        obtain ⟨w, e1, e2⟩ := dps_get g2 hx
        refine ⟨⟨vs, w, .inl (rd_ex (fun a o h => r2.ext a o (n2.ex a o h)) g1), e1⟩, fun x H3 y => ?_⟩
        obtain ⟨rfl, y⟩ := y
        have y1 := y vs (.inl (rd_ex (fun a o h => r2.ext a o (n2.ex a o h)) g1))
        rw [e1] at y1
        cases y1
        exact ⟨Hf2, Nx.refl, r2, xs[i], hx, dp_ex n2.ex e2⟩
    | _ => exact h1.elim
  | _ => exact h1.elim
theorem di_tup (ha : DE X W a fa) : DI X W tg a (iTupM fa) := by
  obtain ⟨t, p, k⟩ := ha
  refine ⟨_, pi_tup p, fun B ca ρ cs Hf σ H R r h => ?_⟩
  refine k B ca ρ cs Hf σ H _ r (h.bind.mono fun ca1 Hf1 H1 cs1 s n1 r1 h1 v hv => ?_)
  cases s with
  | d x =>
    cases x with
    | tuple xs =>
      have hv' : Dd Hf1 v (.tuple xs) := hv
      cases hv' with
      | tup g1 g2 =>
        rename_i l vs
        refine ⟨l, rfl, ⟨vs, .inl (rd_ex r1.ext g1)⟩, ?_⟩
        refine (h1.ret_ r1) _ fun ca2 ρ2 cs2 Hf2 σ2 H2 i n2 r2 hi => ⟨fun e => ⟨vs, .inl (rd_ex (fun a o h => r2.ext a o (n2.ex a o h)) g1), by rw [dps_len g2]; omega⟩, fun hi' => ?_⟩
        have hx : xs[i]? = some xs[i] := by simp [hi']
        obtain ⟨w, e1, e2⟩ := dps_get g2 hx
        refine ⟨⟨vs, w, .inl (rd_ex (fun a o h => r2.ext a o (n2.ex a o h)) g1), e1⟩, fun x H3 y => ?_⟩
        obtain ⟨rfl, y⟩ := y
        have y1 := y vs (.inl (rd_ex (fun a o h => r2.ext a o (n2.ex a o h)) g1))
        rw [e1] at y1
        cases y1
        exact ⟨Hf2, Nx.refl, r2, xs[i], hx, dp_ex n2.ex e2⟩
    | _ => exact h1.elim
  | _ => exact h1.elim
theorem di_rng {p : Pos} (ha : DE X W a fa) (hm : X.mg "range" = none) (hg : Gl X "range" := by rfl) (hs : starEach [a] X.env = [(false, eval a X.env)] := by rfl) : DI X W tg (.Call (.Name "range" p) [a] [] pos) (iRng fa) := by
  obtain ⟨t, q, k⟩ := ha
  refine ⟨_, pi_range1 hg hm (pa_cons q pa_nil hs) hs, fun B ca ρ cs Hf σ H R r h => ?_⟩
  refine k B ca ρ cs Hf σ H _ r (h.bind.mono fun ca1 Hf1 H1 cs1 s n1 r1 h1 v hv => ?_)
  cases s with
  | d x =>
    cases x with
    | int j =>
      have hv' : Dd Hf1 v (.int j) := hv
      cases hv'
      have h2 : Gs X W B ca1 Hf1 ρ σ ((if -(2 ^ 62) ≤ j ∧ j < 2 ^ 62 then ret (rngD 0 j.toNat) else stuck) cs1) _ := h1
      split at h2
      · rename_i hz
        refine ⟨j, rfl, hz.1, hz.2, ?_⟩
        refine (h2.ret_ r1) _ fun ca2 ρ2 cs2 Hf2 σ2 H2 i n2 r2 hi => ⟨fun e => ?_, fun hi' => ?_⟩
        · rw [rngD_len] at e; exact Nat.le_of_eq e.symm
        · rw [rngD_len] at hi'
          refine ⟨hi', fun x H3 y => ?_⟩
          obtain ⟨rfl, rfl⟩ := y
          exact ⟨Hf2, Nx.refl, r2, _, rngD_get hi', .int _⟩
      · exact h2.elim
    | _ => exact h1.elim
  | _ => exact h1.elim
theorem di_rng2 {p : Pos} (ha : DE X W a fa) (hb : DE X W b fb) (hm : X.mg "range" = none) (hg : Gl X "range" := by rfl) (hs : starEach [a, b] X.env = [(false, eval a X.env), (false, eval b X.env)] := by rfl) (hs2 : starEach [b] X.env = [(false, eval b X.env)] := by rfl) :
    DI X W tg (.Call (.Name "range" p) [a, b] [] pos) (iRngTwo fa fb) := by
  obtain ⟨t, q, k⟩ := ha
  obtain ⟨t', q', k'⟩ := hb
  refine ⟨_, pi_range2 hg hm (pa_cons q (pa_cons q' pa_nil hs2) (by rw [hs, hs2])) hs hs2, fun B ca ρ cs Hf σ H R r h => ?_⟩
  refine k B ca ρ cs Hf σ H _ r (h.bind.mono fun ca1 Hf1 H1 cs1 s n1 r1 h1 v hv => ?_)
  refine k' B ca1 ρ cs1 Hf1 σ H1 _ r1 (h1.bind.mono fun ca2 Hf2 H2 cs2 s' n2 r2 h2 v' hv' => ?_)
  cases s with
  | d x =>
    cases x with
    | int i =>
      cases s' with
      | d x' =>
        cases x' with
        | int j =>
          have hv1 : Dd Hf1 v (.int i) := hv
          cases hv1
          have hv2 : Dd Hf2 v' (.int j) := hv'
          cases hv2
          have h3 : Gs X W B ca2 Hf2 ρ σ ((if -(2 ^ 62) ≤ i ∧ i < 2 ^ 62 ∧ -(2 ^ 62) ≤ j ∧ j < 2 ^ 62 then ret (rngD i (j - i).toNat) else stuck) cs2) _ := h2
          split at h3
          · rename_i hz
            refine ⟨i, j, rfl, hz, ?_⟩
            refine (h3.ret_ r2) _ fun ca3 ρ3 cs3 Hf3 σ3 H3 m n3 r3 hm => ⟨fun e => ?_, fun hm' => ?_⟩
            · rw [rngD_len] at e; exact Nat.le_of_eq e.symm
            · rw [rngD_len] at hm'
              refine ⟨hm', fun x H4 y => ?_⟩
              obtain ⟨rfl, rfl⟩ := y
              exact ⟨Hf3, Nx.refl, r3, _, rngD_get hm', .int _⟩
          · exact h3.elim
        | _ => exact h2.elim
      | _ => exact h2.elim
    | _ => exact h2.elim
  | _ => exact h2.elim
def sFor (tg : D → List S → Option (List S)) (it : List S → M (List D)) (body : G) : G := fun ρ => stp (it ρ) (fun xs cs => gFor tg body xs ρ cs) ρ
theorem dst_for {body : List Stmt} {g : D → List S → Option (List S)} {it : List S → M (List D)} {gb : G} (hp : PassesOwn (model X.prog X.w) X.A X.env X.xe) (hi : DI X W tg a it) (hg : DG X tg g) (hb : DSs X W body gb) (hc : X.calm = true := by rfl)
    (hs : ∀ x, foldedSetIterable a X.env x = pure x := by intro _; rfl) : DSt X W (.For tg a body [] pos) (sFor g it gb) := by
  obtain ⟨wi, pi, ki⟩ := hi
  obtain ⟨tgt, pg, kg⟩ := hg
  obtain ⟨tb, pb, kb⟩ := hb
  refine ⟨_, ps_for hp hc pi pg pb hs, fun B ca ρ cs Hf σ H En r h => ?_⟩
  refine ki B ca ρ cs Hf σ H _ r (h.stp_.mono fun ca1 Hf1 H1 cs1 xs n1 r1 h1 J hJ => ?_)
  refine ⟨fun i m σ2 H2 => m = xs.length - i ∧ i ≤ xs.length ∧ ∃ ca2 ρ2 cs2 Hf2, Nx ca1 Hf1 ca2 Hf2 ∧ Rel B ca2 ρ2 cs2 Hf2 σ2 H2 ∧ GO X W B ca2 Hf2 En (gFor g gb (xs.drop i) ρ2 cs2), ⟨xs.length, by simp, Nat.zero_le _, ca1, ρ, cs1, Hf1, Nx.refl, r1, h1⟩, ?_⟩
  rintro i m σ2 H2 ⟨rfl, hi, ca2, ρ2, cs2, Hf2, n2, r2, h2⟩
  obtain ⟨hstop, hgo⟩ := hJ ca2 ρ2 cs2 Hf2 σ2 H2 i n2 r2 hi
  by_cases hlt : i < xs.length
  · obtain ⟨go, yl⟩ := hgo hlt
    refine .inr ⟨go, fun σ' H' => i + 1 ≤ xs.length ∧ ∃ ca2 ρ2 cs2 Hf2, Nx ca1 Hf1 ca2 Hf2 ∧ Rel B ca2 ρ2 cs2 Hf2 σ' H' ∧ GO X W B ca2 Hf2 En (gFor g gb (xs.drop (i + 1)) ρ2 cs2), fun σ' H' p' => ⟨xs.length - (i + 1), by omega, rfl, p'.1, p'.2⟩, fun x H3 y => ?_⟩
    obtain ⟨Hf3, n3, r3, d, ed, hd⟩ := yl x H3 y
    have ed' : xs.drop i = d :: xs.drop (i + 1) := by
      rw [List.drop_eq_getElem_cons hlt]
      rw [List.getElem?_eq_getElem hlt] at ed
      rw [Option.some.inj ed]
    rw [ed'] at h2
    have h2' : GO X W B ca2 Hf2 En (match g d ρ2 with
      | none => .no
      | some ρ1 => match gb ρ1 cs2 with
        | .nx ρ' cs' => gFor g gb (xs.drop (i + 1)) ρ' cs'
        | .ct ρ' cs' => gFor g gb (xs.drop (i + 1)) ρ' cs'
        | .bk ρ' cs' => .nx ρ' cs'
        | .rt r cs' => .rt r cs'
        | .er c ρ' cs' => .er c ρ' cs'
        | .no => .no) := h2
    cases eg : g d ρ2 with
    | none => rw [eg] at h2'; exact h2'.elim
    | some ρ1 =>
      rw [eg] at h2'
      have h3 : GO X W B ca2 Hf2 En (match gb ρ1 cs2 with
        | .nx ρ' cs' => gFor g gb (xs.drop (i + 1)) ρ' cs'
        | .ct ρ' cs' => gFor g gb (xs.drop (i + 1)) ρ' cs'
        | .bk ρ' cs' => .nx ρ' cs'
        | .rt r cs' => .rt r cs'
        | .er c ρ' cs' => .er c ρ' cs'
        | .no => .no) := h2'
      refine kg B ca2 ρ2 ρ1 cs2 Hf3 σ2 H3 x d _ r3 hd eg fun σ4 r4 => ?_
      refine kb B ca2 ρ1 cs2 Hf3 σ4 H3 _ r4 ?_
      have h4 := GO.fwd h3 n3
      cases eb : gb ρ1 cs2 with
      | nx ρ' cs' => rw [eb] at h4; exact fun ca' Hf' σ' H' n' r' => ⟨hlt, ca', ρ', cs', Hf', (n2.trans n3).trans n', r', GO.fwd h4 n'⟩
      | ct ρ' cs' => rw [eb] at h4; exact fun ca' Hf' σ' H' n' r' => ⟨hlt, ca', ρ', cs', Hf', (n2.trans n3).trans n', r', GO.fwd h4 n'⟩
      | bk ρ' cs' => rw [eb] at h4; exact fun ca' Hf' σ' H' n' r' => h4 ca' Hf' σ' H' n' r'
      | rt v cs' => rw [eb] at h4; exact h4
      | er c ρ' cs' => rw [eb] at h4; exact h4
      | no => rw [eb] at h4; exact h4.elim
  · have e : i = xs.length := by omega
    refine .inl ⟨hstop e, ?_⟩
    rw [e, List.drop_length] at h2
    exact GO.nx_ (show GO X W B ca2 Hf2 En (.nx ρ2 cs2) from h2) r2
def gWhile (t : List S → M Bool) (body : G) : Nat → G
  | 0, _, _ => .no
  | n + 1, ρ, cs => stp (t ρ) (fun b cs => if b = true then (match body ρ cs with
      | .nx ρ' cs' => gWhile t body n ρ' cs'
      | .ct ρ' cs' => gWhile t body n ρ' cs'
      | .bk ρ' cs' => .nx ρ' cs'
      | .rt r cs' => .rt r cs'
      | .er c ρ' cs' => .er c ρ' cs'
      | .no => .no) else .nx ρ cs) ρ cs
/-- the fuel may be any number -/
def sWhile (fuel : List S → Store → Nat) (t : List S → M Bool) (body : G) : G := fun ρ cs => gWhile t body (fuel ρ cs) ρ cs
theorem dst_while (fuel : List S → Store → Nat) {body : List Stmt} {t : List S → M Bool} {gb : G} (hp : PassesOwn (model X.prog X.w) X.A X.env X.xe) (hc : DT X W a t) (hb : DSs X W body gb) : DSt X W (.While a body [] pos) (sWhile fuel t gb) := by
  obtain ⟨tc, pc, kc⟩ := hc
  obtain ⟨tb, pb, kb⟩ := hb
  refine ⟨_, ps_while hp pc pb, fun B ca ρ cs Hf σ H En r h => ?_⟩
  refine ⟨fun m σ2 H2 => ∃ ca2 ρ2 cs2 Hf2, Rel B ca2 ρ2 cs2 Hf2 σ2 H2 ∧ GO X W B ca2 Hf2 En (gWhile t gb m ρ2 cs2), ⟨_, ca, ρ, cs, Hf, r, h⟩, ?_⟩
  rintro m σ2 H2 ⟨ca2, ρ2, cs2, Hf2, r2, h2⟩
  cases m with
  | zero => exact (show False from h2).elim
  | succ m =>
    have h2' : GO X W B ca2 Hf2 En (stp (t ρ2) (fun b cs => if b = true then (match gb ρ2 cs with
      | .nx ρ' cs' => gWhile t gb m ρ' cs'
      | .ct ρ' cs' => gWhile t gb m ρ' cs'
      | .bk ρ' cs' => .nx ρ' cs'
      | .rt r cs' => .rt r cs'
      | .er c ρ' cs' => .er c ρ' cs'
      | .no => .no) else .nx ρ2 cs) ρ2 cs2) := h2
    refine kc B ca2 ρ2 cs2 Hf2 σ2 H2 _ r2 (h2'.stp_.mono fun ca3 Hf3 H3 cs3 b n3 r3 h3 => ?_)
    cases b with
    | false => exact GO.nx_ (show GO X W B ca3 Hf3 En (.nx ρ2 cs3) from h3) r3
    | true =>
      have h4 : GO X W B ca3 Hf3 En (match gb ρ2 cs3 with
        | .nx ρ' cs' => gWhile t gb m ρ' cs'
        | .ct ρ' cs' => gWhile t gb m ρ' cs'
        | .bk ρ' cs' => .nx ρ' cs'
        | .rt r cs' => .rt r cs'
        | .er c ρ' cs' => .er c ρ' cs'
        | .no => .no) := h3
      refine ⟨fun σ' H' => ∃ ca2 ρ2 cs2 Hf2, Rel B ca2 ρ2 cs2 Hf2 σ' H' ∧ GO X W B ca2 Hf2 En (gWhile t gb m ρ2 cs2), fun σ' H' p' => ⟨m, Nat.lt_succ_self _, p'⟩, ?_⟩
      refine kb B ca3 ρ2 cs3 Hf3 σ2 H3 _ r3 ?_
      cases eb : gb ρ2 cs3 with
      | nx ρ' cs' => rw [eb] at h4; exact fun ca' Hf' σ' H' n' r' => ⟨ca', ρ', cs', Hf', r', GO.fwd h4 n'⟩
      | ct ρ' cs' => rw [eb] at h4; exact fun ca' Hf' σ' H' n' r' => ⟨ca', ρ', cs', Hf', r', GO.fwd h4 n'⟩
      | bk ρ' cs' => rw [eb] at h4; exact fun ca' Hf' σ' H' n' r' => h4 ca' Hf' σ' H' n' r'
      | rt v cs' => rw [eb] at h4; exact h4
      | er c ρ' cs' => rw [eb] at h4; exact h4
      | no => rw [eb] at h4; exact h4.elim
end
end Dn

set_option Elab.async false
set_option linter.all false
set_option maxRecDepth 100000
set_option maxHeartbeats 1000000
/-! Dn6: cells changed by methods and stores; defs and their calls. -/
namespace Dn
open PySem L2
/-- a method that changes the list of a cell: the answer, the new items -/
def rMt (g : List D → List D → Option (D × List D)) : V → List V → Hp → VK → Prop := fun x vs H Q => ∃ Hf l ws xs ds d ys, g xs ds = some (d, ys) ∧ Ex Hf H ∧ x = .ref l ∧ H l = some (.lst ws) ∧ Dds Hf ws xs ∧ Dds Hf vs ds ∧ xs.length ≤ sizeLine ∧
  ∀ v us, Dd Hf v d → Dds Hf us ys → Q v (upd H l (.lst us))
def celM (s : S) : M (Nat × List D) := fun cs => match s with
  | .cel j => match cs[j]? with
    | some (.lst xs) => .ok (j, xs) cs
    | _ => .no
  | _ => .no
def putM (j : Nat) (o : OC) : M Unit := fun cs => .ok () (cs.set j o)
def fin_ (g : List D → List D → Option (D × List D)) (s : S) (ss : List S) : M S :=
  bnd (celM s) fun p => bnd (ofO (asD ss)) fun ds => bnd (ofO (if p.2.length ≤ sizeLine then g p.2 ds else none)) fun q => bnd (putM p.1 (.lst q.2)) fun _ => ret (.d q.1)
def eMt (g : List D → List D → Option (D × List D)) (fo : List S → M S) (fa : List S → M (List S)) (ρ : List S) : M S := bnd (fo ρ) fun s => bnd (celM s) fun _ => bnd (fa ρ) fun ss => fin_ g s ss
def eMt0 (g : List D → List D → Option (D × List D)) (fo : List S → M S) (ρ : List S) : M S := bnd (fo ρ) fun s => fin_ g s []
def appG : List D → List D → Option (D × List D)
  | xs, [d] => if xs.length < sizeLine then some (.none, xs ++ [d]) else none
  | _, _ => none
def extG : List D → List D → Option (D × List D)
  | xs, [.list ys] => if xs.length + ys.length ≤ sizeLine then some (.none, xs ++ ys) else none
  | _, _ => none
def popG : List D → List D → Option (D × List D)
  | xs, [] => (xs[xs.length - 1]?).map fun d => (d, xs.dropLast)
  | _, _ => none
section
variable {X : Cx} {W : WX} {B : Hp} {ca : List Addr} {Hf H : Hp} {ρ : List S} {σ : L2.St} {cs : Store} {β : Type} {P : List Addr → Hp → Hp → Store → β → Prop}
theorem celM_ {a : S} {k : Nat × List D → M β} (h : Gs X W B ca Hf ρ σ (bnd (celM a) k cs) P) : ∃ j xs, a = .cel j ∧ cs[j]? = some (.lst xs) ∧ Gs X W B ca Hf ρ σ (k (j, xs) cs) P := by
  unfold bnd celM at h
  cases a with
  | cel j =>
    cases e : cs[j]? with
    | none => simp only [e] at h; exact h.elim
    | some o =>
      cases o with
      | lst xs => simp only [e] at h; exact ⟨j, xs, rfl, e, h⟩
      | dK _ => simp only [e] at h; exact h.elim
  | _ => exact h.elim
end
section
variable {X : Cx} {W : WX} {o e : Expr} {es : List Expr} {fo fb : List S → M S} {fa : List S → M (List S)} {name : Str} {id : String} {apos cpos pos : Pos} {g : List D → List D → Option (D × List D)}
theorem ty_cel {B : Hp} {ca : List Addr} {ρ : List S} {cs : Store} {Hf : Hp} {σ : L2.St} {H : Hp} {j : Nat} {xs : List D} {x : V} (r : Rel B ca ρ cs Hf σ H) (hx : SvOk ca Hf (.cel j) x) (e : cs[j]? = some (.lst xs)) :
    ∃ l ws, x = .ref l ∧ ca[j]? = some l ∧ H l = some (.lst ws) ∧ Dds Hf ws xs := by
  obtain ⟨l, h1, rfl⟩ := hx
  obtain ⟨ws, g1, g2⟩ := r.cell e h1
  exact ⟨l, ws, rfl, h1, g1, g2⟩
theorem fin_run {B : Hp} {ca : List Addr} {ρ : List S} {cs : Store} {Hf : Hp} {σ : L2.St} {H : Hp} {Q : VK} {s : S} {ss : List S} {x : V} {vs : List V} (r : Rel B ca ρ cs Hf σ H) (hx : SvOk ca Hf s x) (hv : SvsOk ca Hf ss vs)
    (h : Gs X W B ca Hf ρ σ (fin_ g s ss cs) (fun ca' Hf' H' _ s => ∀ v, SvOk ca' Hf' s v → Q v H')) : rMt g x vs H Q := by
  obtain ⟨j, xs, rfl, e1, h1⟩ := celM_ h
  obtain ⟨ds, e2, h2⟩ := ofOb_ h1
  obtain ⟨q, e3, h3⟩ := ofOb_ h2
  obtain ⟨l, ws, rfl, c1, c2, c3⟩ := ty_cel r hx e1
  dsimp only at e3
  split at e3
  · rename_i hz
    refine ⟨Hf, l, ws, xs, ds, q.1, q.2, e3, r.ext, rfl, c2, c3, asD_dds e2 hv, hz, fun v us hd hu => ?_⟩
    have r2 : Rel B ca ρ (cs.set j (.lst q.2)) Hf σ (upd H l (.lst us)) := r.write c1 ⟨us, upd_same, hu⟩
    exact h3 ca Hf _ Nx.refl r2 v hd
  · cases e3
theorem eMt_run {to : TE} {t : TA} (ko : KE X W to fo) (kt : KA X W t fa) {B : Hp} {ca : List Addr} {ρ : List S} {cs : Store} {Hf : Hp} {σ : L2.St} {H : Hp} {Q : VK} (r : Rel B ca ρ cs Hf σ H)
    (h : Gs X W B ca Hf ρ σ (eMt g fo fa ρ cs) (fun ca' Hf' H' _ s => ∀ v, SvOk ca' Hf' s v → Q v H')) : tBM X.K "list" (rMt g) to t σ H Q := by
  refine ko B ca ρ cs Hf σ H _ r (h.bind.mono fun ca1 Hf1 H1 cs1 s n1 r1 h1 x hx => ?_)
  obtain ⟨j, xs, rfl, e1, h2⟩ := celM_ h1
  obtain ⟨l, ws, rfl, c1, c2, c3⟩ := ty_cel r1 hx e1
  refine ⟨.inl ⟨rfl, ws, .inl (.inl c2)⟩, ?_⟩
  exact kt B ca1 ρ cs1 Hf1 σ H1 _ r1 (h2.bind.mono fun ca2 Hf2 H2 cs2 ss n2 r2 h3 vs hvs => fin_run r2 (hx.nx n2) hvs h3)
theorem eMt0_run {to : TE} (ko : KE X W to fo) {B : Hp} {ca : List Addr} {ρ : List S} {cs : Store} {Hf : Hp} {σ : L2.St} {H : Hp} {Q : VK} (r : Rel B ca ρ cs Hf σ H)
    (h : Gs X W B ca Hf ρ σ (eMt0 g fo ρ cs) (fun ca' Hf' H' _ s => ∀ v, SvOk ca' Hf' s v → Q v H')) : tBM0 X.K "list" (rMt g) to σ H Q := by
  refine ko B ca ρ cs Hf σ H _ r (h.bind.mono fun ca1 Hf1 H1 cs1 s n1 r1 h1 x hx => ?_)
  have h1' := h1
  obtain ⟨j, xs, rfl, e1, h2⟩ := celM_ h1
  obtain ⟨l, ws, rfl, c1, c2, c3⟩ := ty_cel r1 hx e1
  exact ⟨.inl ⟨rfl, ws, .inl (.inl c2)⟩, fin_run r1 hx .nil h1'⟩
theorem de_mt (slot : Slot "list" name id) (hty : typeOf (.builtin id) = pure (.type "method_descriptor")) (hm : MtR X id (rMt g)) (ho : DE X W o fo) (ha : DA X W (e :: es) fa)
    (hbase : attributeBase o name X.env (eval o X.env) = eval o X.env := by rfl)
    (hfew : ((backTo cpos (starEach (e :: es) X.env)).all (fun x => !x.1) && (backToKw cpos (keywordEach [] X.env)).all (fun x => x.1.isSome)
      && decide ((e :: es).length + ([] : List Keyword).length + (if ([] : List Keyword).isEmpty then 0 else 1) < 30)) = true := by rfl)
    (hline : (apos.endLine == cpos.line) = true := by rfl) (hs : starEach (e :: es) X.env = (false, eval e X.env) :: starEach es X.env := by rfl) (hplain : (backTo cpos (starEach es X.env)).any (·.1) = false := by rfl) :
    DE X W (.Call (.Attribute o name apos) (e :: es) [] cpos) (eMt g fo fa) := by
  obtain ⟨to, po, ko⟩ := ho
  obtain ⟨t, p, k⟩ := ha
  exact ⟨_, pe_bm PySem.F.plainAttrs_list slot hty hm po p hbase hfew hline hs hplain, fun B ca ρ cs Hf σ H Q r h => eMt_run ko k r h⟩
theorem de_mt0 (slot : Slot "list" name id) (hty : typeOf (.builtin id) = pure (.type "method_descriptor")) (hm : MtR X id (rMt g)) (ho : DE X W o fo)
    (hbase : attributeBase o name X.env (eval o X.env) = eval o X.env := by rfl) (hline : (apos.endLine == cpos.line) = true := by rfl) :
    DE X W (.Call (.Attribute o name apos) [] [] cpos) (eMt0 g fo) := by
  obtain ⟨to, po, ko⟩ := ho
  exact ⟨_, pe_bm0 PySem.F.plainAttrs_list slot hty hm po hbase hline, fun B ca ρ cs Hf σ H Q r h => eMt0_run ko r h⟩
theorem dds_one {Hf : Hp} {vs : List V} {d : D} (h : Dds Hf vs [d]) : ∃ v, vs = [v] ∧ Dd Hf v d := by
  cases h with
  | cons h t => cases t; exact ⟨_, rfl, h⟩
theorem dds_two {Hf : Hp} {vs : List V} {d d' : D} (h : Dds Hf vs [d, d']) : ∃ v v', vs = [v, v'] ∧ Dd Hf v d ∧ Dd Hf v' d' := by
  cases h with
  | cons h t =>
    obtain ⟨v', rfl, h'⟩ := dds_one t
    exact ⟨_, _, rfl, h, h'⟩
theorem app_ok : MtR X "list.append" (rMt appG) := by
  intro pins s σ H x vs v us Q I rx rv h
  obtain ⟨Hf, l, ws, xs, ds, d, ys, e, ex, rfl, c2, c3, hl, hz, q⟩ := h
  unfold appG at e
  split at e
  · rename_i d0
    split at e
    · rename_i hlt
      cases e
      obtain ⟨y, rfl, hy⟩ := dds_one hl
      exact mt_append pins s σ H _ _ v us Q I rx rv ⟨l, ws, y, rfl, rfl, c2, by rw [dps_len c3]; exact hlt, q _ _ .non (dps_app c3 (.cons hy .nil))⟩
    · cases e
  · cases e
theorem ext_ok : MtR X "list.extend" (rMt extG) := by
  intro pins s σ H x vs v us Q I rx rv h
  obtain ⟨Hf, l, ws, xs, ds, d, ys, e, ex, rfl, c2, c3, hl, hz, q⟩ := h
  unfold extG at e
  split at e
  · rename_i zs
    split at e
    · rename_i hlt
      cases e
      obtain ⟨y, rfl, hy⟩ := dds_one hl
      cases hy with
      | lst g1 g2 =>
        rename_i b vs2
        cases rx
        obtain ⟨u, rfl, ru⟩ := rv.one
        cases ru
        have l1 := dps_len c3
        have l2 := dps_len g2
        obtain ⟨z, its, n, r, hl, e⟩ := I.lstM c2
        obtain ⟨z2, its2, n2, r2, hl2, e2⟩ := Inv.rdl I (rd_ex ex g1)
        have hsz : its.toArray.size + its2.toArray.size ≤ sizeLine := by rw [List.size_toArray, List.size_toArray]; omega
        have hlong : ¬ (!its.toArray.isEmpty && Builtin.List.listTooLong (its.toArray.size + its2.toArray.size)) = true := by
          rw [notLongL hsz, Bool.and_false]
          exact Bool.false_ne_true
        refine PySem.call_meets PySem.F.slot_list_extend ⟨_, e, rfl⟩ PySem.F.entry_list_extend (PySem.F.args_list_extend_2 _ _)
          (AutoSeq1.list_extend_list_list_0 l its.toArray n b its2.toArray n2 hlong (by rw [List.size_toArray]; omega) (by omega)) ⟨e, e2, ?_⟩
        refine ⟨.non, _, I.lset (its' := its ++ its2) c2 e (by simp) (r.append r2) ?_, rfl, q _ _ .non (dps_app c3 g2)⟩
        rw [List.length_append]
        omega
    · cases e
  · cases e
theorem pop_ok : MtR X "list.pop" (rMt popG) := by
  intro pins s σ H x vs v us Q I rx rv h
  obtain ⟨Hf, l, ws, xs, ds, d, ys, e, ex, rfl, c2, c3, hl, hz, q⟩ := h
  unfold popG at e
  split at e
  · cases z : xs[xs.length - 1]? with
    | none => rw [z] at e; cases e
    | some d0 =>
      rw [z] at e
      cases e
      cases hl
      obtain ⟨y, k1, k2⟩ := dps_get c3 z
      exact mt_pop pins s σ H _ _ v us Q I rx rv ⟨l, ws, y, rfl, rfl, c2, by rw [dps_len c3]; exact k1, q _ _ k2 (dps_dropLast c3)⟩
  · cases e
end
/-- xs[i] = e, xs a cell -/
def sSub (fo fi fe : List S → M S) : G := fun ρ => stp (bnd (fe ρ) fun e => bnd (fo ρ) fun o => bnd (fi ρ) fun i => bnd (celM o) fun p => match e, i with
  | .d x, .d (.int k) => bnd (ofO (ixN p.2.length k)) fun j => putM p.1 (.lst (p.2.set j x))
  | _, _ => stuck) (fun _ cs => .nx ρ cs) ρ
section
variable {X : Cx} {W : WX} {o i e : Expr} {fo fi fe : List S → M S} {pos pos' : Pos}
theorem dst_sub (he : DE X W e fe) (ho : DE X W o fo) (hi : DE X W i fi)
    (ha : ∀ v, assign (.Subscript o i pos') X.env v = (do
      let ov ← holding [v] (eval o X.env)
      let iv ← holding [v, ov] (eval i X.env)
      standAt pos'
      holding [v, ov, iv] (setItem ov iv v)
      release [v, ov, iv] []) := by intro _; rfl)
    (hs : swapsWithSole [.Subscript o i pos'] e pos.line X.env = pure false := by rfl) (hw : swappedStores [.Subscript o i pos'] e X.env = pure none := by rfl)
    (h1 : (assignEach [.Subscript o i pos'] X.env).map (·.2) = [assign (.Subscript o i pos') X.env] := by rfl) : DSt X W (.Assign [.Subscript o i pos'] e pos) (sSub fo fi fe) := by
  obtain ⟨te, pe, ke⟩ := he
  obtain ⟨to, po, ko⟩ := ho
  obtain ⟨ti, pi, ki⟩ := hi
  refine ⟨_, ps_asg pe (pg_sub po pi set_list ha) hs hw h1, fun B ca ρ cs Hf σ H En r hg => ?_⟩
  refine ke B ca ρ cs Hf σ H _ r (hg.stp_.bind.mono fun ca1 Hf1 H1 cs1 s1 n1 r1 h1 v hv => ?_)
  refine ko B ca1 ρ cs1 Hf1 σ H1 _ r1 (h1.bind.mono fun ca2 Hf2 H2 cs2 s2 n2 r2 h2 x hx => ?_)
  refine ki B ca2 ρ cs2 Hf2 σ H2 _ r2 (h2.bind.mono fun ca3 Hf3 H3 cs3 s3 n3 r3 h3 y hy => ?_)
  obtain ⟨j, xs, rfl, e1, h4⟩ := celM_ h3
  obtain ⟨l, ws, rfl, c1, c2, c3⟩ := ty_cel r3 (hx.nx n3) e1
  cases s1 with
  | d z =>
    cases s3 with
    | d w =>
      cases w with
      | int k =>
        have hy' : Dd Hf3 y (.int k) := hy
        cases hy'
        have h5 : Gs X W B ca3 Hf3 ρ σ (bnd (ofO (ixN xs.length k)) (fun m => putM j (.lst (xs.set m z))) cs3) _ := h4
        obtain ⟨m, e2, h6⟩ := ofOb_ h5
        have hz : Dd Hf3 v z := dp_ex n3.ex (dp_ex n2.ex hv)
        refine ⟨l, ws, k, m, rfl, rfl, c2, by rw [dps_len c3]; exact e2, ?_⟩
        have r4 : Rel B ca3 ρ (cs3.set j (.lst (xs.set m z))) Hf3 σ (upd H3 l (.lst (ws.set m v))) := r3.write c1 ⟨_, upd_same, dps_set m c3 hz⟩
        exact GO.nx_ (h6 ca3 Hf3 _ Nx.refl r4) r4
      | _ => exact h4.elim
    | _ => exact h4.elim
  | _ => exact h4.elim
end

/-! ### defs -/
def fin (n : Nat) : Out → Res Rv
  | .nx _ cs => .ok (.d .none) (cs.take n)
  | .rt (.cel j) cs => if j < n then .ok (.cel j) (cs.take n) else match cs[j]? with
    | some o => .ok (.own o) (cs.take n)
    | none => .no
  | .rt r cs => .ok r (cs.take n)
  | .er c _ cs => .er c (cs.take n)
  | _ => .no
/-- a def's mirror by its body's -/
def runG (m : Nat) (g : G) (ss : List S) : M Rv := fun cs => fin cs.length (g (ss ++ List.replicate m .no) cs)
/-- a def's promise: it does what F says -/
def spE (mg : Str → Option Value) (n : Nat) (F : List S → M Rv) : Sp := fun vs H Q E => vs.length = n ∧ ∃ B ca cs Hf ss, Rel B ca ss cs Hf (vs.map some) H ∧ match F ss cs with
  | .ok r cs' => ∀ Hf' H' v, Ex Hf Hf' → Rel B ca ss cs' Hf' (vs.map some) H' → RvOk B ca Hf' H' r v → Q v H'
  | .er c cs' => ∀ Hf' H' cls, Ex Hf Hf' → Rel B ca ss cs' Hf' (vs.map some) H' → mg c = some cls → E cls none H'
  | .no => False
theorem Rel.cut {B : Hp} {ca ca' : List Addr} {ρ ρ' : List S} {cs cs' : Store} {Hf Hf' : Hp} {σ σ' : L2.St} {H H' : Hp} (r0 : Rel B ca ρ cs Hf σ H) (n : Nx ca Hf ca' Hf') (r : Rel B ca' ρ' cs' Hf' σ' H') : Rel B ca ρ (cs'.take cs.length) Hf' σ H' := by
  obtain ⟨t, ht⟩ := n.pre
  have hlen : ca.length = cs.length := r0.lenc
  have hlen' : ca'.length = cs'.length := r.lenc
  have hle : ca.length ≤ ca'.length := by rw [← ht, List.length_append]; omega
  refine ⟨r.ext, r0.len, fun i s e => ?_, fun j o e => ?_, ?_, r0.nd, fun a m => r.off a (n.pre.subset m), r.exb, fun a m => ⟨(r.dis a m).1, fun z => (r.dis a m).2 (n.pre.subset z)⟩⟩
  · rcases r0.sl i s e with z | ⟨v, h1, h2⟩
    · exact .inl z
    · refine .inr ⟨v, h1, ?_⟩
      cases s with
      | no => exact h2
      | d x => exact dp_ex n.ex h2
      | fn a => exact h2
      | cel j => exact h2
  · have hj : j < cs.length := by
      have := (List.getElem?_eq_some_iff.mp e).1
      rw [List.length_take] at this
      omega
    rw [List.getElem?_take_of_lt hj] at e
    obtain ⟨a, g1, g2⟩ := r.cells j o e
    refine ⟨a, ?_, g2⟩
    rw [← ht, List.getElem?_append_left (by omega)] at g1
    exact g1
  · rw [List.length_take]
    omega
theorem RvOk.cut {B : Hp} {ca ca' : List Addr} {cs : Store} {Hf Hf' H' : Hp} {r : Rv} {v : V} (n : Nx ca Hf ca' Hf') (h : RvOk B ca' Hf' H' r v) (hr : ∀ j, r = .cel j → j < ca.length) : RvOk B ca Hf' H' r v := by
  cases r with
  | d x => exact h
  | own o =>
    obtain ⟨a, e, h1, h2, h3, h4⟩ := h
    exact ⟨a, e, h1, h2, fun z => h3 (n.pre.subset z), h4⟩
  | cel j =>
    obtain ⟨a, h1, e⟩ := h
    obtain ⟨t, ht⟩ := n.pre
    rw [← ht, List.getElem?_append_left (hr j rfl)] at h1
    exact ⟨a, h1, e⟩
section
variable {P : Program} {w : World} {K : PySem.W.Frag} {mg : Str → Option Value} {base : Heap} {x qual : Str} {params : Arguments} {body : List Stmt} {scope : Scope} {dvs : List V} {kws : List (Str × V)} {f : Addr} {fd : FuncData} {N ps : List Str} {k : Nat} {F : List S → M Rv}
/-- the body's context -/
abbrev BX (P : Program) (w : World) (K : PySem.W.Frag) (mg : Str → Option Value) (base : Heap) (N : List Str) (qual : Str) (scope : Scope) (f : Addr) (cd : Value) (A : Around) (outer : List Env) (s : Shared) (H : Hp) (E : XK) : Cx := cxOf (L2.CX P w) P w K mg base N qual scope f cd A outer s H E
abbrev BW (E : XK) : WX := fun cls d _ H => E cls d H
theorem takesB {cdv : Value} {A : Around} {outer : List Env} {s : Shared} {H : Hp} {E : XK} : Takes (BX P w K mg base N qual scope f cdv A outer s H E) (BW E) := takes_of rfl rfl rfl rfl
theorem passesB {cdv : Value} {A : Around} {outer : List Env} {s : Shared} {H : Hp} {E : XK} : PassesOwn (model P w) (BX P w K mg base N qual scope f cdv A outer s H E).A (BX P w K mg base N qual scope f cdv A outer s H E).env (BX P w K mg base N qual scope f cdv A outer s H E).xe := passes_of rfl
/-- THE RULE: a def by its body -/
theorem def_ok (Fd : FunD K x qual params body scope dvs kws f fd) (S : FnScope N ps scope) {g : G} (m : Nat) (hm : N.length = ps.length + m)
    (hbody : ∀ (cdv : Value) (A : Around) (outer : List Env) (s : Shared) (H : Hp) (E : XK), Room k (A.deeper (PyProof.Rows.envOfC qual scope s.heap.objs.size f cdv)) → Takes (BX P w K mg base N qual scope f cdv A outer s H E) (BW E) →
      PassesOwn (model P w) (BX P w K mg base N qual scope f cdv A outer s H E).A (BX P w K mg base N qual scope f cdv A outer s H E).env (BX P w K mg base N qual scope f cdv A outer s H E).xe → DSs (BX P w K mg base N qual scope f cdv A outer s H E) (BW E) body g) :
    FnOk P w K mg base (L2.CX P w) (k + 1) f fd ps (spE mg ps.length (runG m g)) := by
  refine Fd.ok S (fun vs H Q E h => h.1) (fun cdv A outer s H vs Q E hr h => ?_)
  obtain ⟨hl, B, ca, cs, Hf, ss, r, h⟩ := h
  obtain ⟨t, pt, kt⟩ := hbody cdv A outer s H E hr takesB passesB
  refine ⟨t, pt, ?_⟩
  have hss : ss.length = vs.length := by
    have := r.len
    rw [List.length_map] at this
    exact this.symm
  have hst : L2.start N vs = vs.map some ++ List.replicate m none := by
    unfold L2.start
    rw [hm, hl, Nat.add_sub_cancel_left]
  have r1 : Rel B ca (ss ++ List.replicate m .no) cs Hf (L2.start N vs) H := by
    rw [hst]
    refine r.slots (by simp [hss]) fun i sl e => ?_
    by_cases hi : i < ss.length
    · rw [List.getElem?_append_left hi] at e
      rcases r.sl i sl e with z | ⟨v, h1, h2⟩
      · exact .inl z
      · exact .inr ⟨v, by rw [List.getElem?_append_left (by simp; omega)]; exact h1, h2⟩
    · rw [List.getElem?_append_right (by omega), List.getElem?_replicate] at e
      split at e
      · cases e; exact .inl rfl
      · cases e
  refine kt B ca _ cs Hf _ H _ r1 ?_
  have hlc := r.lenc
  unfold runG at h
  cases e : g (ss ++ List.replicate m .no) cs with
  | nx ρ' cs' =>
    rw [e] at h
    exact fun ca' Hf' σ' H' n r' => h Hf' H' .non n.ex (r.cut n r') .non
  | rt rv cs' =>
    rw [e] at h
    intro ca' Hf' ρ' σ' H' v n r' hv
    have rc := r.cut n r'
    cases rv with
    | d x => exact h Hf' H' v n.ex rc (hv.cut (cs := cs) n fun j z => nomatch z)
    | own o => exact h Hf' H' v n.ex rc (hv.cut (cs := cs) n fun j z => nomatch z)
    | cel j =>
      by_cases hj : j < cs.length
      · have h' : match (Res.ok (Rv.cel j) (cs'.take cs.length) : Res Rv) with
          | .ok r cs' => ∀ Hf' H' v, Ex Hf Hf' → Rel B ca ss cs' Hf' (vs.map some) H' → RvOk B ca Hf' H' r v → Q v H'
          | .er c cs' => ∀ Hf' H' cls, Ex Hf Hf' → Rel B ca ss cs' Hf' (vs.map some) H' → mg c = some cls → E cls none H'
          | .no => False := by
          have e2 : fin cs.length (.rt (.cel j) cs') = .ok (.cel j) (cs'.take cs.length) := if_pos hj
          rw [← e2]; exact h
        exact h' Hf' H' v n.ex rc (hv.cut (cs := cs) n fun j' z => by cases z; omega)
      · obtain ⟨a, h1, rfl⟩ := hv
        have hj' : j < cs'.length := by rw [← r'.lenc]; exact (List.getElem?_eq_some_iff.mp h1).1
        obtain ⟨b, g1, g2⟩ := r'.cells j cs'[j] (by simp [hj'])
        rw [h1] at g1; cases g1
        have ma : a ∈ ca' := List.mem_of_getElem? h1
        have h' : match (Res.ok (Rv.own cs'[j]) (cs'.take cs.length) : Res Rv) with
          | .ok r cs' => ∀ Hf' H' v, Ex Hf Hf' → Rel B ca ss cs' Hf' (vs.map some) H' → RvOk B ca Hf' H' r v → Q v H'
          | .er c cs' => ∀ Hf' H' cls, Ex Hf Hf' → Rel B ca ss cs' Hf' (vs.map some) H' → mg c = some cls → E cls none H'
          | .no => False := by
          have e2 : fin cs.length (.rt (.cel j) cs') = .ok (.own cs'[j]) (cs'.take cs.length) := by
            refine Eq.trans (show fin cs.length (.rt (.cel j) cs') = (if j < cs.length then .ok (.cel j) (cs'.take cs.length) else match cs'[j]? with
              | some o => .ok (.own o) (cs'.take cs.length)
              | none => .no) from rfl) ?_
            rw [if_neg hj, List.getElem?_eq_getElem hj']
          rw [← e2]; exact h
        refine h' Hf' H' _ n.ex rc ⟨a, rfl, g2, r'.off a ma, fun z => ?_, ?_⟩
        · obtain ⟨t, ht⟩ := n.pre
          obtain ⟨i, hi, ei⟩ := List.mem_iff_getElem.mp z
          have e3 : ca'[i]? = some a := by rw [← ht, List.getElem?_append_left hi]; simp [hi, ei]
          have := nd_ix r'.nd h1 e3
          omega
        · cases q : B a with
          | none => rfl
          | some u => exact absurd ma (r'.dis a (by rw [q]; simp)).2
  | er c ρ' cs' =>
    rw [e] at h
    exact fun ca' Hf' σ' H' cls n r' hc => h Hf' H' cls n.ex (r.cut n r') hc
  | bk ρ' cs' => rw [e] at h; exact h.elim
  | ct ρ' cs' => rw [e] at h; exact h.elim
  | no => rw [e] at h; exact h.elim
end
end Dn

set_option Elab.async false
set_option linter.all false
set_option maxRecDepth 100000
set_option maxHeartbeats 1000000
/-! Dn7: calls of defs. -/
namespace Dn
open PySem L2
/-- no cell among them -/
def noCel : List S → Bool
  | [] => true
  | .cel _ :: _ => false
  | _ :: r => noCel r
/-- a call that is handed no cell -/
def callP (F : List S → M Rv) (ss : List S) : M Rv := fun cs => if noCel ss = true then (match F ss [] with
  | .ok (.d x) _ => .ok (.d x) cs
  | .ok (.own o) _ => .ok (.own o) cs
  | .ok (.cel _) _ => .no
  | .er c _ => .er c cs
  | .no => .no) else .no
/-- a call that is handed one cell, ahead -/
def callC (F : List S → M Rv) (ss : List S) : M Rv := fun cs => match ss with
  | .cel j :: r => if noCel r = true then (match cs[j]? with
    | some o => match F (.cel 0 :: r) [o] with
      | .ok (.d x) [o'] => .ok (.d x) (cs.set j o')
      | .ok (.own u) [o'] => .ok (.own u) (cs.set j o')
      | .ok (.cel 0) [o'] => .ok (.cel j) (cs.set j o')
      | .er c [o'] => .er c (cs.set j o')
      | _ => .no
    | none => .no) else .no
  | _ => .no
def eCall (F : List S → M Rv) (g : List S → M (List S)) (ρ : List S) : M Rv := bnd (g ρ) (callP F)
def eCallC (F : List S → M Rv) (g : List S → M (List S)) (ρ : List S) : M Rv := bnd (g ρ) (callC F)
/-- the i-th slot holds the def at a; it lets nothing out -/
def eCallL (i : Nat) (a : Addr) (F : List S → M Rv) (g : List S → M (List S)) (ρ : List S) : M Rv := fun cs => match ρ[i]? with
  | some (.fn b) => if b = a then bnd (g ρ) (fun ss cs => match callP F ss cs with
    | .er _ _ => .no
    | o => o) cs else .no
  | _ => .no
section
variable {B : Hp} {ca : List Addr} {ρ : List S} {cs : Store} {Hf Hf' : Hp} {σ : L2.St} {H H' : Hp} {ss : List S} {vs : List V}
theorem nocel_sv : ∀ {ss : List S} {vs : List V} {ca' : List Addr}, noCel ss = true → SvsOk ca Hf ss vs → SvsOk ca' Hf ss vs
  | [], _, _, _, h => by cases h; exact .nil
  | .no :: r, _, _, e, h => by cases h with | cons h t => exact h.elim
  | .d x :: r, _, _, e, h => by cases h with | cons h t => exact .cons h (nocel_sv (show noCel r = true from e) t)
  | .fn a :: r, _, _, e, h => by cases h with | cons h t => exact .cons h (nocel_sv (show noCel r = true from e) t)
  | .cel j :: r, _, _, e, h => by cases e
theorem slots_of {ca' : List Addr} (h : SvsOk ca' Hf ss vs) (i : Nat) (s : S) (e : ss[i]? = some s) : s = .no ∨ ∃ v, (vs.map some)[i]? = some (some v) ∧ SvOk ca' Hf s v := by
  obtain ⟨v, h1, h2⟩ := h.get e
  exact .inr ⟨v, by rw [List.getElem?_map, h1] <;> rfl, h2⟩
/-- what a callee may not touch: all but what is frozen and what it is handed -/
def ban (Hf H : Hp) (ca' : List Addr) : Hp := fun a => if Hf a = none ∧ a ∉ ca' then H a else none
theorem ban_some {ca' : List Addr} {a : Addr} {o : HO} (h1 : Hf a = none) (h2 : a ∉ ca') (h3 : H a = some o) : ban Hf H ca' a = some o := by
  unfold ban; rw [if_pos ⟨h1, h2⟩]; exact h3
theorem ban_of {ca' : List Addr} {a : Addr} (h : ban Hf H ca' a ≠ none) : Hf a = none ∧ a ∉ ca' := by
  unfold ban at h
  by_cases q : Hf a = none ∧ a ∉ ca'
  · exact q
  · rw [if_neg q] at h; exact absurd rfl h
theorem ban_ex {ca' : List Addr} : Ex (ban Hf H ca') H := fun a o h => by
  unfold ban at h
  by_cases q : Hf a = none ∧ a ∉ ca'
  · rw [if_pos q] at h; exact h
  · rw [if_neg q] at h; cases h
theorem Rel.enter (r : Rel B ca ρ cs Hf σ H) (h : noCel ss = true) (hv : SvsOk ca Hf ss vs) : Rel (ban Hf H []) [] ss [] Hf (vs.map some) H :=
  ⟨r.ext, by simp [hv.len], slots_of (nocel_sv h hv), fun j o e => by simp at e, rfl, List.nodup_nil, fun a m => by simp at m, ban_ex, fun a m => ban_of m⟩
theorem Rel.leave {ss' : List S} {σ' : L2.St} (r : Rel B ca ρ cs Hf σ H) (e : Ex Hf Hf') (r' : Rel (ban Hf H []) [] ss' [] Hf' σ' H') : Rel B ca ρ cs Hf' σ H' ∧ Nx ca Hf ca Hf' := by
  have kp : ∀ a, Hf a = none → ∀ o, H a = some o → H' a = some o := fun a h o q => r'.exb a o (ban_some h (by simp) q)
  have nf : ∀ a, Hf a = none → H a ≠ none → Hf' a = none := fun a h q => by
    cases z : H a with
    | none => exact absurd z q
    | some o => exact (r'.dis a (by rw [ban_some h (by simp) z]; simp)).1
  have n : Nx ca Hf ca Hf' := ⟨List.prefix_refl _, e⟩
  refine ⟨⟨r'.ext, r.len, fun i s q => ?_, fun j o q => ?_, r.lenc, r.nd, fun a m => nf a (r.off a m) (r.there m), fun a o q => kp a (r.dis a (by rw [q]; simp)).1 o (r.exb a o q), fun a m => ?_⟩, n⟩
  · rcases r.sl i s q with z | ⟨v, h1, h2⟩
    · exact .inl z
    · exact .inr ⟨v, h1, h2.nx n⟩
  · obtain ⟨a, h1, h2⟩ := r.cells j o q
    refine ⟨a, h1, h2.at ?_ e⟩
    have ma := List.mem_of_getElem? h1
    cases z : H a with
    | none => exact absurd z (r.there ma)
    | some u => exact kp a (r.off a ma) u z
  · obtain ⟨h1, h2⟩ := r.dis a m
    refine ⟨nf a h1 ?_, h2⟩
    cases q : B a with
    | none => exact absurd q m
    | some u => rw [r.exb a u q]; simp
theorem RvOk.leave {rv : Rv} {v : V} (r : Rel B ca ρ cs Hf σ H) (h : RvOk (ban Hf H []) [] Hf' H' rv v) (n : ∀ j, rv ≠ .cel j) : RvOk B ca Hf' H' rv v := by
  cases rv with
  | d x => exact h
  | cel j => exact absurd rfl (n j)
  | own o =>
    obtain ⟨a, e, h1, h2, _, h4⟩ := h
    have hb : ∀ o, H a = some o → Hf a = none → False := fun o q z => by rw [ban_some z (by simp) q] at h4; cases h4
    refine ⟨a, e, h1, h2, fun m => ?_, ?_⟩
    · cases z : H a with
      | none => exact r.there m z
      | some u => exact hb u z (r.off a m)
    · cases z : B a with
      | none => rfl
      | some u => exact (hb u (r.exb a u z) (r.dis a (by rw [z]; simp)).1).elim
theorem Rel.enterC {j : Nat} {o : OC} {a : Addr} {v : V} (r : Rel B ca ρ cs Hf σ H) (h : noCel ss = true) (hv : SvsOk ca Hf ss vs) (hj : cs[j]? = some o) (ha : ca[j]? = some a) : Rel (ban Hf H [a]) [a] (.cel 0 :: ss) [o] Hf ((V.ref a :: vs).map some) H := by
  have ma := List.mem_of_getElem? ha
  refine ⟨r.ext, by simp [hv.len], slots_of (.cons ⟨a, rfl, rfl⟩ (nocel_sv h hv)), fun i u e => ?_, rfl, by simp, fun b m => ?_, ban_ex, fun b m => ban_of m⟩
  · cases i with
    | zero => simp at e; subst e; exact ⟨a, rfl, r.cell hj ha⟩
    | succ i => simp at e
  · simp at m; subst m; exact r.off b ma
theorem Rel.leaveC {ss' : List S} {σ' : L2.St} {j : Nat} {o' : OC} {a : Addr} (r : Rel B ca ρ cs Hf σ H) (ha : ca[j]? = some a) (e : Ex Hf Hf') (r' : Rel (ban Hf H [a]) [a] ss' [o'] Hf' σ' H') : Rel B ca ρ (cs.set j o') Hf' σ H' ∧ Nx ca Hf ca Hf' := by
  have kp : ∀ b, Hf b = none → b ≠ a → ∀ o, H b = some o → H' b = some o := fun b h hn o q => r'.exb b o (ban_some h (by simp [hn]) q)
  have nf : ∀ b, Hf b = none → b ≠ a → H b ≠ none → Hf' b = none := fun b h hn q => by
    cases z : H b with
    | none => exact absurd z q
    | some o => exact (r'.dis b (by rw [ban_some h (by simp [hn]) z]; simp)).1
  have ma := List.mem_of_getElem? ha
  have n : Nx ca Hf ca Hf' := ⟨List.prefix_refl _, e⟩
  refine ⟨⟨r'.ext, r.len, fun i s q => ?_, fun i o q => ?_, by simp [r.lenc], r.nd, fun b m => ?_, fun b o q => ?_, fun b m => ?_⟩, n⟩
  · rcases r.sl i s q with z | ⟨v, h1, h2⟩
    · exact .inl z
    · exact .inr ⟨v, h1, h2.nx n⟩
  · by_cases hi : j = i
    · subst hi
      have hjl : j < cs.length := by rw [← r.lenc]; exact (List.getElem?_eq_some_iff.mp ha).1
      rw [List.getElem?_set_self hjl] at q
      cases q
      obtain ⟨b, g1, g2⟩ := r'.cells 0 o' rfl
      have : a = b := by simpa using g1
      subst this
      exact ⟨a, ha, g2⟩
    · rw [List.getElem?_set_ne hi] at q
      obtain ⟨b, h1, h2⟩ := r.cells i o q
      have hne : b ≠ a := fun z => by subst z; exact hi (nd_ix r.nd ha h1)
      have mb := List.mem_of_getElem? h1
      refine ⟨b, h1, h2.at ?_ e⟩
      cases z : H b with
      | none => exact absurd z (r.there mb)
      | some u => exact kp b (r.off b mb) hne u z
  · by_cases hb : b = a
    · subst hb; exact r'.off b (by simp)
    · exact nf b (r.off b m) hb (r.there m)
  · have hd := r.dis b (by rw [q]; simp)
    exact kp b hd.1 (fun z => hd.2 (z ▸ ma)) o (r.exb b o q)
  · obtain ⟨h1, h2⟩ := r.dis b m
    refine ⟨nf b h1 (fun z => h2 (z ▸ ma)) ?_, h2⟩
    cases q : B b with
    | none => exact absurd q m
    | some u => rw [r.exb b u q]; simp
theorem RvOk.leaveC {rv : Rv} {v : V} {a : Addr} {j : Nat} (r : Rel B ca ρ cs Hf σ H) (ha : ca[j]? = some a) (h : RvOk (ban Hf H [a]) [a] Hf' H' rv v) (n : ∀ i, rv ≠ .cel i) : RvOk B ca Hf' H' rv v := by
  cases rv with
  | d x => exact h
  | cel i => exact absurd rfl (n i)
  | own o =>
    obtain ⟨b, e, h1, h2, h3, h4⟩ := h
    have hne : b ≠ a := fun z => h3 (by simp [z])
    have hb : ∀ o, H b = some o → Hf b = none → False := fun o q z => by rw [ban_some z (by simp [hne]) q] at h4; cases h4
    refine ⟨b, e, h1, h2, fun m => ?_, ?_⟩
    · cases z : H b with
      | none => exact r.there m z
      | some u => exact hb u z (r.off b m)
    · cases z : B b with
      | none => rfl
      | some u => exact (hb u (r.exb b u z) (r.dis b (by rw [z]; simp)).1).elim
end
section
variable {X : Cx} {W : WX} {k : Nat} {f : Addr} {fd : FuncData} {ps : List Str} {F : List S → M Rv} {x : Str} {p pos : Pos} {e : Expr} {es : List Expr} {g : List S → M (List S)}
theorem callP_run {n : Nat} {B : Hp} {ca : List Addr} {ρ : List S} {cs : Store} {Hf : Hp} {σ : L2.St} {H : Hp} {Q : VK} {ss : List S} {vs : List V} (r : Rel B ca ρ cs Hf σ H) (hn : vs.length = n) (hv : SvsOk ca Hf ss vs)
    (h : Gs X W B ca Hf ρ σ (callP F ss cs) (fun ca' Hf' H' _ rv => ∀ v, RvOk B ca' Hf' H' rv v → Q v H')) : spE X.mg n F vs H Q (WE W σ) := by
  unfold callP at h
  by_cases hc : noCel ss = true
  · rw [if_pos hc] at h
    refine ⟨hn, _, [], [], Hf, ss, r.enter hc hv, ?_⟩
    cases q : F ss [] with
    | no => rw [q] at h; exact h.elim
    | er c cs1 =>
      rw [q] at h
      intro Hf' H' cls ex r' hm
      cases cs1 with
      | nil =>
        obtain ⟨r2, n2⟩ := r.leave ex r'
        exact h ca Hf' H' cls n2 r2 hm
      | cons _ _ => exact absurd r'.lenc (by simp)
    | ok rv cs1 =>
      rw [q] at h
      intro Hf' H' v ex r' hr
      have e1 : cs1 = [] := by
        have := r'.lenc
        exact List.length_eq_zero_iff.mp (by simpa using this.symm)
      subst e1
      obtain ⟨r2, n2⟩ := r.leave ex r'
      cases rv with
      | d y => exact h ca Hf' H' n2 r2 v (RvOk.leave r hr fun j z => nomatch z)
      | own o => exact h ca Hf' H' n2 r2 v (RvOk.leave r hr fun j z => nomatch z)
      | cel j => exact h.elim
  · rw [if_neg hc] at h; exact h.elim
theorem do_call (Fk : FnOk X.prog X.w X.K X.mg X.base (L2.CX X.prog X.w) k f fd ps (spE X.mg ps.length F)) (hr : Room k X.A) (tk : Takes X W) (hm : X.mg x = some (.ref f)) (hk : PySem.W.keepIn X.K (.ref f) = true) (hb : Binds X.K fd ps [])
    (ha : DA X W (e :: es) g) (hl : (e :: es).length = ps.length := by rfl) (hg : Gl X x := by rfl) (hdb : (x == ("__debug__" : Str)) = false := by decide) (he : starEach (e :: es) X.env = (false, eval e X.env) :: starEach es X.env := by rfl) (hpl : (backTo pos (starEach es X.env)).any (·.1) = false := by rfl)
    (hlen : ∀ ρ cs ss cs', g ρ cs = .ok ss cs' → ss.length = ps.length) : DO X W (.Call (.Name x p) (e :: es) [] pos) (eCall F g) := by
  obtain ⟨t, pt, kt⟩ := ha
  refine ⟨_, pe_callS (E := WE W) Fk hr hg hm hk hb (passAt tk) pt hdb he hpl, fun B ca ρ cs Hf σ H Q r h => ?_⟩
  have h' := h
  cases q : g ρ cs with
  | ok ss cs1 =>
    refine kt B ca ρ cs Hf σ H _ r ?_
    have hss := hlen ρ cs ss cs1 q
    rw [q]
    intro ca1 Hf1 H1 n1 r1 vs hvs
    have h1 : Gs X W B ca1 Hf1 ρ σ (callP F ss cs1) (fun ca' Hf' H' _ rv => ∀ v, RvOk B ca' Hf' H' rv v → Q v H') := by
      have e1 : eCall F g ρ cs = callP F ss cs1 := bnd_ok q
      rw [← e1]; exact h.fwd n1
    exact callP_run r1 (by rw [← hvs.len]; exact hss) hvs h1
  | er c cs1 =>
    refine kt B ca ρ cs Hf σ H _ r ?_
    rw [q]
    have e1 : eCall F g ρ cs = .er c cs1 := by unfold eCall bnd; rw [q]
    rw [e1] at h
    exact h
  | no =>
    have e1 : eCall F g ρ cs = .no := by unfold eCall bnd; rw [q]
    rw [e1] at h
    exact h.elim
theorem callC_run {n : Nat} {B : Hp} {ca : List Addr} {ρ : List S} {cs : Store} {Hf : Hp} {σ : L2.St} {H : Hp} {Q : VK} {ss : List S} {vs : List V} (r : Rel B ca ρ cs Hf σ H) (hn : vs.length = n) (hv : SvsOk ca Hf ss vs)
    (h : Gs X W B ca Hf ρ σ (callC F ss cs) (fun ca' Hf' H' _ rv => ∀ v, RvOk B ca' Hf' H' rv v → Q v H')) : spE X.mg n F vs H Q (WE W σ) := by
  cases hv with
  | nil => exact h.elim
  | cons hs ht =>
    rename_i s ss v vs
    cases s with
    | cel j =>
      obtain ⟨a, ha, rfl⟩ := hs
      have h0 : Gs X W B ca Hf ρ σ (if noCel ss = true then (match cs[j]? with
        | some o => match F (.cel 0 :: ss) [o] with
          | .ok (.d x) [o'] => .ok (.d x) (cs.set j o')
          | .ok (.own u) [o'] => .ok (.own u) (cs.set j o')
          | .ok (.cel 0) [o'] => .ok (.cel j) (cs.set j o')
          | .er c [o'] => .er c (cs.set j o')
          | _ => .no
        | none => .no) else .no) (fun ca' Hf' H' _ rv => ∀ v, RvOk B ca' Hf' H' rv v → Q v H') := h
      by_cases hc : noCel ss = true
      · rw [if_pos hc] at h0
        cases qj : cs[j]? with
        | none => rw [qj] at h0; exact h0.elim
        | some o =>
          rw [qj] at h0
          refine ⟨hn, _, [a], [o], Hf, _, r.enterC (v := .ref a) hc ht qj ha, ?_⟩
          have h1 : Gs X W B ca Hf ρ σ (match F (.cel 0 :: ss) [o] with
            | .ok (.d x) [o'] => .ok (.d x) (cs.set j o')
            | .ok (.own u) [o'] => .ok (.own u) (cs.set j o')
            | .ok (.cel 0) [o'] => .ok (.cel j) (cs.set j o')
            | .er c [o'] => .er c (cs.set j o')
            | _ => .no) (fun ca' Hf' H' _ rv => ∀ v, RvOk B ca' Hf' H' rv v → Q v H') := h0
          cases q : F (.cel 0 :: ss) [o] with
          | no => rw [q] at h1; exact h1.elim
          | er c cs1 =>
            rw [q] at h1
            intro Hf' H' cls ex r' hm
            have hl := r'.lenc
            match cs1, hl with
            | [o'], _ =>
              obtain ⟨r2, n2⟩ := r.leaveC ha ex r'
              exact h1 ca Hf' H' cls n2 r2 hm
          | ok rv cs1 =>
            rw [q] at h1
            intro Hf' H' v ex r' hr
            have hl := r'.lenc
            match cs1, hl with
            | [o'], _ =>
              obtain ⟨r2, n2⟩ := r.leaveC ha ex r'
              cases rv with
              | d y => exact h1 ca Hf' H' n2 r2 v (RvOk.leaveC r ha hr fun j z => nomatch z)
              | own u => exact h1 ca Hf' H' n2 r2 v (RvOk.leaveC r ha hr fun j z => nomatch z)
              | cel i =>
                cases i with
                | zero =>
                  obtain ⟨b, g1, rfl⟩ := hr
                  have : a = b := by simpa using g1
                  subst this
                  exact h1 ca Hf' H' n2 r2 _ ⟨a, ha, rfl⟩
                | succ i => exact h1.elim
      · rw [if_neg hc] at h0; exact h0.elim
    | _ => exact h.elim
theorem do_callC (Fk : FnOk X.prog X.w X.K X.mg X.base (L2.CX X.prog X.w) k f fd ps (spE X.mg ps.length F)) (hr : Room k X.A) (tk : Takes X W) (hm : X.mg x = some (.ref f)) (hk : PySem.W.keepIn X.K (.ref f) = true) (hb : Binds X.K fd ps [])
    (ha : DA X W (e :: es) g) (hl : (e :: es).length = ps.length := by rfl) (hg : Gl X x := by rfl) (hdb : (x == ("__debug__" : Str)) = false := by decide) (he : starEach (e :: es) X.env = (false, eval e X.env) :: starEach es X.env := by rfl) (hpl : (backTo pos (starEach es X.env)).any (·.1) = false := by rfl)
    (hlen : ∀ ρ cs ss cs', g ρ cs = .ok ss cs' → ss.length = ps.length) : DO X W (.Call (.Name x p) (e :: es) [] pos) (eCallC F g) := by
  obtain ⟨t, pt, kt⟩ := ha
  refine ⟨_, pe_callS (E := WE W) Fk hr hg hm hk hb (passAt tk) pt hdb he hpl, fun B ca ρ cs Hf σ H Q r h => ?_⟩
  cases q : g ρ cs with
  | ok ss cs1 =>
    refine kt B ca ρ cs Hf σ H _ r ?_
    have hss := hlen ρ cs ss cs1 q
    rw [q]
    intro ca1 Hf1 H1 n1 r1 vs hvs
    have h1 : Gs X W B ca1 Hf1 ρ σ (callC F ss cs1) (fun ca' Hf' H' _ rv => ∀ v, RvOk B ca' Hf' H' rv v → Q v H') := by
      have e1 : eCallC F g ρ cs = callC F ss cs1 := bnd_ok q
      rw [← e1]; exact h.fwd n1
    exact callC_run r1 (by rw [← hvs.len]; exact hss) hvs h1
  | er c cs1 =>
    refine kt B ca ρ cs Hf σ H _ r ?_
    rw [q]
    have e1 : eCallC F g ρ cs = .er c cs1 := by unfold eCallC bnd; rw [q]
    rw [e1] at h
    exact h
  | no =>
    have e1 : eCallC F g ρ cs = .no := by unfold eCallC bnd; rw [q]
    rw [e1] at h
    exact h.elim
/-- a call of a local name that holds a def -/
theorem do_callL (i : Nat) (Fk : FnOk X.prog X.w X.K X.mg X.base (L2.CX X.prog X.w) k f fd ps (spE X.mg ps.length F)) (hr : Room k X.A) (hk : PySem.W.keepIn X.K (.ref f) = true) (hb : Binds X.K fd ps [])
    (ha : DA X W (e :: es) g) (hlen : ∀ ρ cs ss cs', g ρ cs = .ok ss cs' → ss.length = ps.length) (hN : X.N[i]? = some x := by rfl) (hv : Vis X.env.scope x := by first | exact Or.inl rfl | exact Or.inr (Or.inl rfl) | exact Or.inr (Or.inr rfl))
    (hdb : (x == ("__debug__" : Str)) = false := by decide) (hcd : (x == ("__classdict__" : Str)) = false := by decide) (he : starEach (e :: es) X.env = (false, eval e X.env) :: starEach es X.env := by rfl) (hpl : (backTo pos (starEach es X.env)).any (·.1) = false := by rfl) : DO X W (.Call (.Name x p) (e :: es) [] pos) (eCallL i f F g) := by
  obtain ⟨t, pt, kt⟩ := ha
  refine ⟨_, pe_callL (dvs := []) (E := E0) Fk hr hN hv hk hb .nil passL pt hdb hcd he hpl, fun B ca ρ cs Hf σ H Q r h => ?_⟩
  cases es : ρ[i]? with
  | none =>
    have e1 : eCallL i f F g ρ cs = .no := by unfold eCallL; rw [es]
    rw [e1] at h; exact h.elim
  | some s =>
    cases s with
    | fn b =>
      by_cases hb : b = f
      · subst hb
        have e1 : eCallL i b F g ρ cs = bnd (g ρ) (fun ss cs => match callP F ss cs with
          | .er _ _ => .no
          | o => o) cs := by unfold eCallL; rw [es]; exact if_pos rfl
        rw [e1] at h
        obtain ⟨v0, s1, s2⟩ := r.get es (fun z => nomatch z)
        have s2' : v0 = .ref b := s2
        subst s2'
        refine ⟨s1, ?_⟩
        cases q : g ρ cs with
        | ok ss cs1 =>
          refine kt B ca ρ cs Hf σ H _ r ?_
          have hss := hlen ρ cs ss cs1 q
          rw [q]
          intro ca1 Hf1 H1 n1 r1 vs hvs
          rw [bnd_ok q] at h
          rw [List.append_nil]
          have h1 := h.fwd n1
          cases qc : callP F ss cs1 with
          | er c c' => rw [qc] at h1; exact h1.elim
          | no => rw [qc] at h1; exact h1.elim
          | ok rv cs2 =>
            rw [qc] at h1
            have h2 : Gs X (fun _ _ _ _ => False) B ca1 Hf1 ρ σ (callP F ss cs1) (fun ca' Hf' H' _ rv => ∀ v, RvOk B ca' Hf' H' rv v → Q v H') := by rw [qc]; exact h1
            exact callP_run (W := fun _ _ _ _ => False) r1 (by rw [← hvs.len]; exact hss) hvs h2
        | er c cs1 =>
          refine kt B ca ρ cs Hf σ H _ r ?_
          rw [q]
          unfold bnd at h
          rw [q] at h
          exact h
        | no =>
          unfold bnd at h
          rw [q] at h
          exact h.elim
      · have e1 : eCallL i f F g ρ cs = .no := by unfold eCallL; rw [es]; exact if_neg hb
        rw [e1] at h; exact h.elim
    | _ =>
      have e1 : eCallL i f F g ρ cs = .no := by unfold eCallL; rw [es]
      rw [e1] at h; exact h.elim
theorem alen0 : ∀ ρ cs ss cs', aNil ρ cs = .ok ss cs' → ss.length = 0 := fun ρ cs ss cs' h => by
  have h' : (Res.ok [] cs : Res (List S)) = .ok ss cs' := h
  cases h'; rfl
theorem alenS {fa : List S → M S} {n : Nat} (hl : ∀ ρ cs ss cs', g ρ cs = .ok ss cs' → ss.length = n) : ∀ ρ cs ss cs', aCons fa g ρ cs = .ok ss cs' → ss.length = n + 1 := fun ρ cs ss cs' h => by
  unfold aCons bnd at h
  cases q : fa ρ cs with
  | ok a c1 =>
    rw [q] at h
    dsimp only at h
    cases q2 : g ρ c1 with
    | ok as c2 =>
      rw [q2] at h
      have h' : (Res.ok (a :: as) c2 : Res (List S)) = .ok ss cs' := h
      cases h'
      exact congrArg Nat.succ (hl ρ c1 as _ q2)
    | er c c2 => rw [q2] at h; cases h
    | no => rw [q2] at h; cases h
  | er c c2 => rw [q] at h; cases h
  | no => rw [q] at h; cases h
end
end Dn

set_option Elab.async false
set_option linter.all false
set_option maxRecDepth 100000
set_option maxHeartbeats 1000000
/-! Dn8: defs by name, the head by facts, the law's end. -/
namespace Dn
open PySem L2
/-- the def named x does what F says, by at most k levels -/
def Okf (P : Program) (w : World) (K : PySem.W.Frag) (mg : Str → Option Value) (base : Heap) (k : Nat) (x : Str) (ps : List Str) (F : List S → M Rv) : Prop :=
  ∃ f fd, mg x = some (.ref f) ∧ f = He.ga K x ∧ FnOk P w K mg base (L2.CX P w) k f fd ps (spE mg ps.length F) ∧ Binds K fd ps [] ∧ PySem.W.keepIn K (.ref f) = true
section
variable {P : Program} {w : World} {K : PySem.W.Frag} {mg : Str → Option Value} {base : Heap} {j k : Nat} {x : Str} {ps N : List Str} {F : List S → M Rv} {st : Stmt}
theorem Okf.mono (h : Okf P w K mg base j x ps F) (hk : j ≤ k) : Okf P w K mg base k x ps F := by
  obtain ⟨f, fd, h1, h0, h2, h3, h4⟩ := h
  exact ⟨f, fd, h1, h0, h2.mono hk, h3, h4⟩
/-- how a def of the text stands -/
structure Dfn (K : PySem.W.Frag) (mg : Str → Option Value) (x : Str) (st : Stmt) (ps : List Str) : Prop where
  g : mg x = some (.ref (He.ga K x))
  d : ∃ fd, FunD K x x (defArgs st) (defBody st) (defScope st) [] [] (He.ga K x) fd ∧ Binds K fd ps []
theorem Dfn.ok (T : Dfn K mg x st ps) (sc : FnScope N ps (defScope st)) (m : Nat) (hm : N.length = ps.length + m) {g : G}
    (hbody : ∀ (cdv : Value) (A : Around) (outer : List Env) (s : Shared) (H : Hp) (E : XK), Room k (A.deeper (PyProof.Rows.envOfC x (defScope st) s.heap.objs.size (He.ga K x) cdv)) → Takes (BX P w K mg base N x (defScope st) (He.ga K x) cdv A outer s H E) (BW E) →
      PassesOwn (model P w) (BX P w K mg base N x (defScope st) (He.ga K x) cdv A outer s H E).A (BX P w K mg base N x (defScope st) (He.ga K x) cdv A outer s H E).env (BX P w K mg base N x (defScope st) (He.ga K x) cdv A outer s H E).xe → DSs (BX P w K mg base N x (defScope st) (He.ga K x) cdv A outer s H E) (BW E) (defBody st) g) :
    Okf P w K mg base (k + 1) x ps (runG m g) := by
  obtain ⟨h1, fd, h2, h3⟩ := T
  exact ⟨He.ga K x, fd, h1, rfl, def_ok h2 sc m hm hbody, h3, h2.kp⟩
def F0 : List S → M Rv := fun _ _ => .no
theorem Dfn.ok0 (T : Dfn K mg x st ps) : Okf P w K mg base k x ps F0 := by
  obtain ⟨h1, fd, h2, h3⟩ := T
  refine ⟨He.ga K x, fd, h1, rfl, ⟨fun vs H Q E h => h.1, fun A outer s H args us vs Q E hr e0 hb hv hs => ?_⟩, h3, h2.kp⟩
  obtain ⟨_, _, _, _, _, _, _, z⟩ := hs
  exact z.elim
end
section
variable {X : Cx} {W : WX} {k : Nat} {x : Str} {ps : List Str} {F : List S → M Rv} {p pos : Pos} {e : Expr} {es : List Expr} {g : List S → M (List S)}
theorem do_f (h : Okf X.prog X.w X.K X.mg X.base k x ps F) (hr : Room k X.A) (tk : Takes X W)
    (ha : DA X W (e :: es) g) (hlen : ∀ ρ cs ss cs', g ρ cs = .ok ss cs' → ss.length = ps.length) (hl : (e :: es).length = ps.length := by rfl) (hg : Gl X x := by rfl) (hdb : (x == ("__debug__" : Str)) = false := by decide) (he : starEach (e :: es) X.env = (false, eval e X.env) :: starEach es X.env := by rfl) (hpl : (backTo pos (starEach es X.env)).any (·.1) = false := by rfl)
    : DO X W (.Call (.Name x p) (e :: es) [] pos) (eCall F g) := by
  obtain ⟨f, fd, h1, _, h2, h3, h4⟩ := h
  exact do_call h2 hr tk h1 h4 h3 ha hl hg hdb he hpl hlen
theorem do_fC (h : Okf X.prog X.w X.K X.mg X.base k x ps F) (hr : Room k X.A) (tk : Takes X W)
    (ha : DA X W (e :: es) g) (hlen : ∀ ρ cs ss cs', g ρ cs = .ok ss cs' → ss.length = ps.length) (hl : (e :: es).length = ps.length := by rfl) (hg : Gl X x := by rfl) (hdb : (x == ("__debug__" : Str)) = false := by decide) (he : starEach (e :: es) X.env = (false, eval e X.env) :: starEach es X.env := by rfl) (hpl : (backTo pos (starEach es X.env)).any (·.1) = false := by rfl)
    : DO X W (.Call (.Name x p) (e :: es) [] pos) (eCallC F g) := by
  obtain ⟨f, fd, h1, _, h2, h3, h4⟩ := h
  exact do_callC h2 hr tk h1 h4 h3 ha hl hg hdb he hpl hlen
theorem do_fL (i : Nat) {y : Str} (h : Okf X.prog X.w X.K X.mg X.base k y ps F) (hr : Room k X.A)
    (ha : DA X W (e :: es) g) (hlen : ∀ ρ cs ss cs', g ρ cs = .ok ss cs' → ss.length = ps.length) (hN : X.N[i]? = some x := by rfl) (hv : Vis X.env.scope x := by first | exact Or.inl rfl | exact Or.inr (Or.inl rfl) | exact Or.inr (Or.inr rfl))
    (hdb : (x == ("__debug__" : Str)) = false := by decide) (hcd : (x == ("__classdict__" : Str)) = false := by decide) (he : starEach (e :: es) X.env = (false, eval e X.env) :: starEach es X.env := by rfl) (hpl : (backTo pos (starEach es X.env)).any (·.1) = false := by rfl)
    : DO X W (.Call (.Name x p) (e :: es) [] pos) (eCallL i (He.ga X.K y) F g) := by
  obtain ⟨f, fd, h1, rfl, h2, h3, h4⟩ := h
  exact do_callL i h2 hr h4 h3 ha hlen hN hv hdb hcd he hpl
end
end Dn

namespace Dn
open PySem L2 He
/-! ### the head: no list stands in what is told of it -/
def nl (o : Obj) : Bool := match o.cls with
  | .type c => c != "list"
  | _ => true
def frL (g : Addr → Option Obj) (as : List Addr) : PySem.W.Frag := (frG g as).filter fun q => nl q.2
theorem frL_mem {g : Addr → Option Obj} {as : List Addr} {a : Addr} {o : Obj} (h : (frL g as).lookup a = some o) : g a = some o ∧ nl o = true := by
  obtain ⟨h1, h2⟩ := List.mem_filter.mp (lookup_mem h)
  exact ⟨frG_mem h1, h2⟩
abbrev AlL : Type := AlD
def obsL (n : Nat) (fa : List Fa) (fn : List DefD) (g : Addr → Option Obj) : AlL := obsD fa fn (frL g (He.asD g n))
def SaysL (fa : List Fa) (fn : List DefD) (K : PySem.W.Frag) : Prop := SaysD fa fn K ∧ ∀ a o, K.lookup a = some o → o.cls ≠ .type "list"
def hookL (n : Nat) (fa : List Fa) (fn : List DefD) : PySem.W.Hook where
  α := AlL
  obs := fun s => obsL n fa fn s.heap.get?
  val := fun _ => valD fn
  says := fun _ h => ∃ K : PySem.W.Frag, K.In h ∧ SaysL fa fn K
  of := fun _ _ e => ⟨_, fun _ _ q => (frL_mem q).1, e, fun a o q z => by
    have h := (frL_mem q).2
    unfold nl at h
    rw [z] at h
    cases h⟩
  keeps := fun _ _ _ ⟨K, hK, c⟩ k => ⟨K, PySem.W.Frag.In.keeps hK k, c⟩
def obL (n : Nat) (fa : List Fa) (fn : List DefD) (s : PySem.W.SharedT) : AlL := obsL n fa fn (HandSHeadRun.getT s)
theorem obL_eq (n : Nat) (fa : List Fa) (fn : List DefD) (s : PySem.W.SharedT) : obL n fa fn s = (hookL n fa fn).obs s.abs := by
  have e : HandSHeadRun.getT s = s.abs.heap.get? := funext (HandSHeadRun.getT_eq s)
  unfold obL
  rw [e] <;> rfl
/-- a def of the text, as the hook looks at it -/
def dfd (x : Str) (st : Stmt) : DefD := ⟨(x, none), x, x, defArgs st, defBody st, defScope st, [], []⟩
section
variable {fa : List Fa} {fn : List DefD} {K : PySem.W.Frag} {mg : Str → Option Value} {h : Heap}
theorem dfn_of (X : K.In h) (G : h.Ns mainGlobals mg) (c : SaysD fa fn K) {x : Str} {st : Stmt} {ps : List Str} (i j : Nat) (hi : fn[i]? = some (dfd x st)) (hj : fa[j]? = some (.glo x))
    (hb : ∀ (kV doc pm : Value) (an : Option Addr) (cdv ct : Value) (us : List Value), us.length = ps.length → bindArgs (PySem.W.fnOf x x (defArgs st) (defBody st) (defScope st) .none kV doc pm an cdv ct) ⟨us, []⟩ = pure (ps.zip us)) : Dfn K mg x st ps := by
  obtain ⟨fd, F⟩ := c.def_ i hi
  exact ⟨glo_ok X G (c.fact j hj), fd, F, FunD.bindsN F hb⟩
end
/-- the law's end -/
theorem law_end {l : PySem.W.OpenLaw} {n k : Nat} {q : Program} {loose : List Str} {d : DefRec} {fa : List Fa} {fn : List DefD} {m : Nat} {XP : (Str → Option Value) → Heap → Prop} {x : Str} {F : PySem.W.Frag → List S → M Rv}
    (hn : l.most = some n) (hn2 : n ≤ sizeLine) (hdf : d.params.defaults = []) (hr : Room k callerA)
    (hF : ∀ (w : World) (mg : Str → Option Value) (h : Heap) (K : PySem.W.Frag), K.In h → SaysD fa fn K → h.Ns mainGlobals mg → ∃ fd : FuncData, mg d.name = some (.ref (ga K d.name)) ∧ (∀ (s : Shared) (u : Value), BindsTo s fd ⟨[u], []⟩ [(x, u)]) ∧
      ∀ base : Heap, K.In base → base.Ns mainGlobals mg → FnOk l.prog w K mg base (L2.CX l.prog w) k (ga K d.name) fd [x] (spE mg 1 (F K)))
    (hl : ∀ (K : PySem.W.Frag) (ns : List Int), ns.length ≤ n → ∃ cs', F K [.d (.list (ns.map .int))] [] = .ok (.d (.bool true)) cs') :
    PySem.W.WalkO q loose XP (hookL m fa fn).says l.row.toRowW d [] (fun f vs => PySem.call f vs) := by
  refine L2.walk_ofE (n := n) (k := k) (x := x) (CX := fun outer H s E u s' => ∃ w : World, L2.CX l.prog w outer H s E u s') hn hn2 hdf hr ?_ (fun H s e s' z => ?_)
  · intro w mg fa0 h Y G hmg
    obtain ⟨K, KX, c, hno⟩ := Y
    obtain ⟨fd, hg, hb, hF'⟩ := hF w mg h K KX c G
    have e0 := hmg.symm.trans hg
    cases e0
    refine ⟨K, fd, spE mg 1 (F K), KX, hb, fun H a ns hlen _ hS => ?_, fun base k1 k2 => ?_⟩
    · have rd : Rd H a (.lst (ns.map V.int)) := by
        rcases hS with z | ⟨o, its, m', z1, z2, _⟩
        · exact z
        · exact absurd z2 (hno a o z1)
      have dd : Dds H (ns.map V.int) (ns.map PyData.int) := by
        clear hlen hS rd
        induction ns with
        | nil => exact .nil
        | cons i r ih => exact .cons (.int i) ih
      obtain ⟨cs', e⟩ := hl K ns hlen
      refine ⟨rfl, fun _ => none, [], [], H, [.d (.list (ns.map .int))], ⟨fun _ _ h => h, rfl, fun i s e => ?_, fun j o e => (by simp at e), rfl, List.nodup_nil, fun b z => (by simp at z), fun b o z => (by cases z), fun b z => absurd rfl z⟩, ?_⟩
      · cases i with
        | zero => simp at e; subst e; exact .inr ⟨.ref a, rfl, .lst rd dd⟩
        | succ i => simp at e
      · rw [e]
        intro Hf' H' v _ _ hv
        have hv' : Dd Hf' v (.bool true) := hv
        cases hv'
        rfl
    · have FN := hF' base k1 k2
      exact ⟨FN.len, fun A outer s H args us vs Q E h1 h2 h3 h4 h5 => codeAny_mono (FN.run A outer s H args us vs Q E h1 h2 h3 h4 h5) fun r s' hq => by
        cases r with
        | ok f => cases f <;> exact hq
        | error e => exact ⟨w, hq⟩⟩
  · obtain ⟨w, _, _, _, _, _, _, _, _, _, _, _, _, z⟩ := z
    exact z
end Dn

set_option Elab.async false
set_option linter.all false
set_option maxRecDepth 100000
set_option maxHeartbeats 1000000
/-! Dn9: short forms for printed texts. -/
namespace Dn
open PySem L2
theorem bt_len : bootBuiltins "len" = some (.builtin "len") := by decide +kernel
theorem bt_min : bootBuiltins "min" = some (.builtin "min") := by decide +kernel
theorem bt_max : bootBuiltins "max" = some (.builtin "max") := by decide +kernel
theorem bt_abs : bootBuiltins "abs" = some (.builtin "abs") := by decide +kernel
theorem bt_sum : bootBuiltins "sum" = some (.builtin "sum") := by decide +kernel
theorem bt_sorted : bootBuiltins "sorted" = some (.builtin "sorted") := by decide +kernel
theorem bt_int : bootBuiltins "int" = some (.type "int") := by decide +kernel
theorem bt_bool : bootBuiltins "bool" = some (.type "bool") := by decide +kernel
theorem bt_str : bootBuiltins "str" = some (.type "str") := by decide +kernel
theorem bt_list : bootBuiltins "list" = some (.type "list") := by decide +kernel
theorem bt_tuple : bootBuiltins "tuple" = some (.type "tuple") := by decide +kernel
theorem bt_dict : bootBuiltins "dict" = some (.type "dict") := by decide +kernel
theorem bt_set : bootBuiltins "set" = some (.type "set") := by decide +kernel
theorem hu65 {k : Nat} {A : Around} (r : Room k A) : A.units + 65 < cLine := by have := r.un; omega
def negD : D → Option D
  | .int i => some (.int (-i))
  | _ => none
def eNeg (fa : List S → M S) (ρ : List S) : M S := bnd (op1 negD fa ρ) fun d => ret (.d d)
/-- an exception class of the text -/
structure Exf (K : PySem.W.Frag) (mg : Str → Option Value) (x : Str) : Prop where
  g : mg x = some (.ref (He.ga K x))
  e : PySem.W.excIn K (He.ga K x) He.veBase "ValueError.__new__" = true ∧ PySem.W.keepIn K (.ref (He.ga K x)) = true ∧ PySem.W.subIn K (.ref (He.ga K x)) (.type "BaseException") = some true ∧ PySem.W.typeIn K (.ref (He.ga K x)) = some (.type "type")
section
variable {X : Cx} {W : WX} {a : Expr} {fa : List S → M S} {pos : Pos}
theorem de_neg (ha : DE X W a fa) : DE X W (.UnaryOp .USub a pos) (eNeg fa) := by
  obtain ⟨ta, pa, ka⟩ := ha
  refine ⟨_, pe_un un_neg pa, fun B ca ρ cs Hf σ H Q r h => ?_⟩
  refine op1_run ka r h fun ca2 Hf2 H2 cs2 x da z n2 r2 hx hz h2 => ?_
  unfold negD at hz
  split at hz
  · cases hz
    have := hx.int_; subst this
    exact ⟨_, rfl, h2.ret_ r2 _ (.int _)⟩
  · cases hz
theorem de_gI {x : Str} {i : Int} (hm : ∃ t, X.mg x = some (.int i t)) (hg : Gl X x := by rfl) (hd : (x == ("__debug__" : Str)) = false := by decide) : DE X W (.Name x pos) (eC (.int i)) :=
  let ⟨_, h⟩ := hm; de_globI h hg hd
theorem de_gS {x y : Str} (hm : ∃ t, X.mg x = some (.str y t)) (hg : Gl X x := by rfl) (hd : (x == ("__debug__" : Str)) = false := by decide) : DE X W (.Name x pos) (eC (.str y)) :=
  let ⟨_, h⟩ := hm; de_globS h hg hd
theorem dst_rs {x m : Str} {j : Nat} {p p2 p3 : Pos} (h : Exf X.K X.mg x) (tk : Takes X W) (hc : X.calm = true := by rfl) (hg : Gl X x := by rfl) (hdb : (x == ("__debug__" : Str)) = false := by decide) : DSt X W (.Raise (some (.Call (.Name x p) [.Constant (.str m) j p2] [] p3)) none pos) (sErr x) :=
  dst_raise tk PySem.F.excBase_ValueError h.e.1 h.g h.e.2.1 (raises_own h.e.2.2.1 h.e.2.2.2) hc hg hdb
end
theorem exf_of {fa : List He.Fa} {fn : List He.DefD} {K : PySem.W.Frag} {mg : Str → Option Value} {h : Heap} (X : K.In h) (G : h.Ns mainGlobals mg) (c : He.SaysD fa fn K) {x : Str} (i j : Nat) (hi : fa[i]? = some (.glo x)) (hj : fa[j]? = some (.exc x)) : Exf K mg x :=
  ⟨He.glo_ok X G (c.fact i hi), He.exc_ok (c.fact j hj)⟩
end Dn

set_option Elab.async false
set_option linter.all false
set_option maxRecDepth 100000
set_option maxHeartbeats 1000000
/-! DnS: what mirrors come to, by simp. -/
namespace Dn
open PySem L2
section
variable {α β : Type} {cs cs' : Store} {ρ : List S} {i j : Nat}
@[simp] theorem ret_ (a : α) : ret a cs = .ok a cs := rfl
@[simp] theorem stuck_ : (stuck : M α) cs = .no := rfl
@[simp] theorem bnd_ (m : M α) (k : α → M β) : bnd m k cs = match m cs with
  | .ok a cs' => k a cs'
  | .er c cs' => .er c cs'
  | .no => .no := rfl
@[simp] theorem ofO_some (a : α) : ofO (some a) cs = .ok a cs := rfl
@[simp] theorem ofO_none : (ofO (none : Option α)) cs = .no := rfl
@[simp] theorem vw_d (x : D) : vw (.d x) cs = some x := rfl
@[simp] theorem vw_cel : vw (.cel j) cs = match cs[j]? with
    | some (.lst xs) => some (.list xs)
    | _ => none := rfl
@[simp] theorem vwM_d (x : D) : vwM (.d x) cs = .ok x cs := rfl
@[simp] theorem vwM_cel : vwM (.cel j) cs = match cs[j]? with
    | some (.lst xs) => .ok (.list xs) cs
    | _ => .no := by
  show (match vw (.cel j) cs with
    | some d => Res.ok d cs
    | none => .no) = _
  rw [vw_cel]
  cases cs[j]? with
  | none => rfl
  | some o => cases o <;> rfl
@[simp] theorem eV_ : eV i ρ = match ρ[i]? with
  | some (.d x) => ret (.d x)
  | some (.cel j) => ret (.cel j)
  | some (.fn a) => ret (.fn a)
  | _ => stuck := rfl
@[simp] theorem eC_ (d : D) : eC d ρ cs = .ok (.d d) cs := rfl
@[simp] theorem eFn_ (a : Addr) : eFn a ρ cs = .ok (.fn a) cs := rfl
@[simp] theorem op2_ (g : D → D → Option β) (fa fb : List S → M S) : op2 g fa fb ρ cs = bnd (fa ρ) (fun a => bnd (fb ρ) fun b => bnd (vwM a) fun x => bnd (vwM b) fun y => ofO (g x y)) cs := rfl
@[simp] theorem op1_ (g : D → Option β) (fa : List S → M S) : op1 g fa ρ cs = bnd (fa ρ) (fun a => bnd (vwM a) fun x => ofO (g x)) cs := rfl
@[simp] theorem eBin_ (g : D → D → Option D) (fa fb : List S → M S) : eBin g fa fb ρ cs = bnd (op2 g fa fb ρ) (fun d => ret (.d d)) cs := rfl
@[simp] theorem eCmp_ (g : D → D → Option Bool) (fa fb : List S → M S) : eCmp g fa fb ρ cs = bnd (op2 g fa fb ρ) (fun b => ret (.d (.bool b))) cs := rfl
@[simp] theorem eIsN_ (fa : List S → M S) : eIsN fa ρ cs = bnd (op1 isnD fa ρ) (fun b => ret (.d (.bool b))) cs := rfl
@[simp] theorem eIsNN_ (fa : List S → M S) : eIsNN fa ρ cs = bnd (op1 isnD fa ρ) (fun b => ret (.d (.bool (!b)))) cs := rfl
@[simp] theorem tT_ (fa : List S → M S) : tT fa ρ cs = op1 truD fa ρ cs := rfl
@[simp] theorem tNotM_ (f : List S → M Bool) : tNotM f ρ cs = bnd (f ρ) (fun b => ret (!b)) cs := rfl
@[simp] theorem tAndM_ (f g : List S → M Bool) : tAndM f g ρ cs = bnd (f ρ) (fun b => if b = true then g ρ else ret false) cs := rfl
@[simp] theorem tOrM_ (f g : List S → M Bool) : tOrM f g ρ cs = bnd (f ρ) (fun b => if b = true then ret true else g ρ) cs := rfl
@[simp] theorem eAndM_ (f g : List S → M S) : eAndM f g ρ cs = bnd (f ρ) (fun a => bnd (vwM a) fun x => bnd (ofO (truD x)) fun b => if b = true then g ρ else ret a) cs := rfl
@[simp] theorem eOrM_ (f g : List S → M S) : eOrM f g ρ cs = bnd (f ρ) (fun a => bnd (vwM a) fun x => bnd (ofO (truD x)) fun b => if b = true then ret a else g ρ) cs := rfl
@[simp] theorem eNotM_ (f : List S → M S) : eNotM f ρ cs = bnd (op1 truD f ρ) (fun b => ret (.d (.bool (!b)))) cs := rfl
@[simp] theorem eNeg_ (f : List S → M S) : eNeg f ρ cs = bnd (op1 negD f ρ) (fun d => ret (.d d)) cs := rfl
@[simp] theorem eIf_ (t : List S → M Bool) (f g : List S → M S) : eIf t f g ρ cs = bnd (t ρ) (fun b => if b = true then f ρ else g ρ) cs := rfl
@[simp] theorem tChn_ (g g' : D → D → Option Bool) (fa fb fc : List S → M S) : tChn g g' fa fb fc ρ cs = bnd (fa ρ) (fun a => bnd (fb ρ) fun b => bnd (vwM a) fun x => bnd (vwM b) fun y => bnd (ofO (g x y)) fun k => if k = true then bnd (fc ρ) fun c => bnd (vwM b) fun y' => bnd (vwM c) fun z => ofO (g' y' z) else ret false) cs := rfl
@[simp] theorem eChn_ (g g' : D → D → Option Bool) (fa fb fc : List S → M S) : eChn g g' fa fb fc ρ cs = bnd (tChn g g' fa fb fc ρ) (fun b => ret (.d (.bool b))) cs := rfl
@[simp] theorem aNil_ : aNil ρ cs = .ok [] cs := rfl
@[simp] theorem aCons_ (f : List S → M S) (g : List S → M (List S)) : aCons f g ρ cs = bnd (f ρ) (fun a => bnd (g ρ) fun as => ret (a :: as)) cs := rfl
@[simp] theorem asD_nil : asD [] = some [] := rfl
@[simp] theorem asD_d (x : D) (r : List S) : asD (.d x :: r) = (asD r).map (x :: ·) := rfl
@[simp] theorem eTup_ (g : List S → M (List S)) : eTup g ρ cs = bnd (g ρ) (fun as => bnd (ofO (asD as)) fun xs => if xs.length ≤ sizeLine then ret (.d (.tuple xs)) else stuck) cs := rfl
@[simp] theorem eLst_ (g : List S → M (List S)) : eLst g ρ cs = bnd (g ρ) (fun as => bnd (ofO (asD as)) fun xs => if xs.length ≤ sizeLine then ret (.own (.lst xs)) else stuck) cs := rfl
@[simp] theorem frz_d (x : D) : frz (.d x) = ret (.d x) := rfl
@[simp] theorem frz_own (xs : List D) : frz (.own (.lst xs)) = ret (.d (.list xs)) := rfl
@[simp] theorem frz_cel : frz (.cel j) = ret (.cel j) := rfl
@[simp] theorem eFrz_ (f : List S → M Rv) : eFrz f ρ cs = bnd (f ρ) frz cs := rfl
@[simp] theorem sRv_d (x : D) : sRv (.d x) = ret (.d x) := rfl
@[simp] theorem sRv_cel : sRv (.cel j) = ret (.cel j) := rfl
@[simp] theorem eRv_ (f : List S → M S) : eRv f ρ cs = bnd (f ρ) sRv cs := rfl
@[simp] theorem oNone_ : oNone ρ cs = .ok none cs := rfl
@[simp] theorem oSome_ (f : List S → M S) : oSome f ρ cs = bnd (f ρ) (fun a => match a with
  | .d (.int i) => ret (some i)
  | _ => stuck) cs := rfl
@[simp] theorem eSl_ (f : List S → M S) (l h : List S → M (Option Int)) : eSl f l h ρ cs = bnd (f ρ) (fun a => bnd (l ρ) fun lo => bnd (h ρ) fun hi => bnd (vwM a) fun x => bnd (ofO (slD x lo hi)) fun d => ret (.d d)) cs := rfl
@[simp] theorem vws_nil : vws [] cs = some [] := rfl
theorem vws_cons (s : S) (r : List S) : vws (s :: r) cs = match vw s cs, vws r cs with
    | some d, some ds => some (d :: ds)
    | _, _ => none := rfl
@[simp] theorem vws_d (x : D) (r : List S) : vws (.d x :: r) cs = (vws r cs).map (x :: ·) := by
  rw [vws_cons, vw_d]
  cases vws r cs <;> rfl
theorem vws_cel {xs : List D} (r : List S) (h : cs[j]? = some (.lst xs)) : vws (.cel j :: r) cs = (vws r cs).map (.list xs :: ·) := by
  rw [vws_cons, vw_cel, h]
  cases vws r cs <;> rfl
@[simp] theorem vwsM_nil : vwsM [] cs = .ok [] cs := rfl
@[simp] theorem vwsM_d (x : D) (r : List S) : vwsM (.d x :: r) cs = bnd (vwsM r) (fun ds => ret (x :: ds)) cs := by
  unfold vwsM bnd ret
  simp only []
  rw [vws_d]
  cases vws r cs <;> rfl
theorem vwsM_cel {xs : List D} (r : List S) (h : cs[j]? = some (.lst xs)) : vwsM (.cel j :: r) cs = bnd (vwsM r) (fun ds => ret (.list xs :: ds)) cs := by
  unfold vwsM bnd ret
  simp only []
  rw [vws_cel r h]
  cases vws r cs <;> rfl
@[simp] theorem eCd_ (g : List D → Option D) (f : List S → M (List S)) : eCd g f ρ cs = bnd (f ρ) (fun ss => bnd (vwsM ss) fun ds => bnd (ofO (g ds)) fun d => ret (.d d)) cs := rfl
@[simp] theorem eIsa_ (T : String) (fa : List S → M S) : eIsa T fa ρ cs = bnd (op1 (fun d => some (isaD T d)) fa ρ) (fun b => ret (.d (.bool b))) cs := rfl
@[simp] theorem celM_lst {xs : List D} (h : cs[j]? = some (.lst xs)) : celM (.cel j) cs = .ok (j, xs) cs := by
  unfold celM; simp only [h]
@[simp] theorem putM_ (o : OC) : putM j o cs = .ok () (cs.set j o) := rfl
@[simp] theorem fin__ (g : List D → List D → Option (D × List D)) (s : S) (ss : List S) : fin_ g s ss cs = bnd (celM s) (fun p => bnd (ofO (asD ss)) fun ds => bnd (ofO (if p.2.length ≤ sizeLine then g p.2 ds else none)) fun q => bnd (putM p.1 (.lst q.2)) fun _ => ret (.d q.1)) cs := rfl
@[simp] theorem eMt_ (g : List D → List D → Option (D × List D)) (fo : List S → M S) (fa : List S → M (List S)) : eMt g fo fa ρ cs = bnd (fo ρ) (fun s => bnd (celM s) fun _ => bnd (fa ρ) fun ss => fin_ g s ss) cs := rfl
@[simp] theorem eMt0_ (g : List D → List D → Option (D × List D)) (fo : List S → M S) : eMt0 g fo ρ cs = bnd (fo ρ) (fun s => fin_ g s []) cs := rfl
@[simp] theorem appG_ (xs : List D) (d : D) : appG xs [d] = if xs.length < sizeLine then some (.none, xs ++ [d]) else none := rfl
@[simp] theorem extG_ (xs ys : List D) : extG xs [.list ys] = if xs.length + ys.length ≤ sizeLine then some (.none, xs ++ ys) else none := rfl
@[simp] theorem popG_ (xs : List D) (d : D) : popG (xs ++ [d]) [] = some (d, xs) := by
  unfold popG
  simp
/-! statements -/
@[simp] theorem stp_ (m : M α) (k : α → Store → Out) : stp m k ρ cs = match m cs with
  | .ok a cs' => k a cs'
  | .er c cs' => .er c ρ cs'
  | .no => .no := rfl
@[simp] theorem gNil_ : gNil ρ cs = .nx ρ cs := rfl
@[simp] theorem gSeq_ (g h : G) : gSeq g h ρ cs = match g ρ cs with
  | .nx ρ' cs' => h ρ' cs'
  | o => o := rfl
@[simp] theorem sSet_ (f : List S → M S) : sSet i f ρ cs = stp (f ρ) (fun s cs => .nx (ρ.set i s) cs) ρ cs := rfl
@[simp] theorem sNew_ (f : List S → M Rv) : sNew i f ρ cs = stp (f ρ) (fun r cs => match r with
  | .own o => .nx (ρ.set i (.cel cs.length)) (cs ++ [o])
  | .d x => .nx (ρ.set i (.d x)) cs
  | .cel j => .nx (ρ.set i (.cel j)) cs) ρ cs := rfl
@[simp] theorem sRet_ (f : List S → M Rv) : sRet f ρ cs = stp (f ρ) (fun r cs => .rt r cs) ρ cs := rfl
@[simp] theorem sRetN_ : sRetN ρ cs = .rt (.d .none) cs := rfl
@[simp] theorem sExp_ (f : List S → M S) : sExp f ρ cs = stp (f ρ) (fun _ cs => .nx ρ cs) ρ cs := rfl
@[simp] theorem sIf_ (t : List S → M Bool) (g h : G) : sIf t g h ρ cs = stp (t ρ) (fun b cs => if b = true then g ρ cs else h ρ cs) ρ cs := rfl
@[simp] theorem sErr_ (c : Str) : sErr c ρ cs = .er c ρ cs := rfl
@[simp] theorem gPass_ : gPass ρ cs = .nx ρ cs := rfl
@[simp] theorem gBrk_ : gBrk ρ cs = .bk ρ cs := rfl
@[simp] theorem gCon_ : gCon ρ cs = .ct ρ cs := rfl
@[simp] theorem gFor_nil (tg : D → List S → Option (List S)) (body : G) : gFor tg body [] ρ cs = .nx ρ cs := rfl
theorem gFor_cons (tg : D → List S → Option (List S)) (body : G) (x : D) (xs : List D) : gFor tg body (x :: xs) ρ cs = match tg x ρ with
    | none => .no
    | some ρ1 => match body ρ1 cs with
      | .nx ρ' cs' => gFor tg body xs ρ' cs'
      | .ct ρ' cs' => gFor tg body xs ρ' cs'
      | .bk ρ' cs' => .nx ρ' cs'
      | .rt r cs' => .rt r cs'
      | .er c ρ' cs' => .er c ρ' cs'
      | .no => .no := rfl
@[simp] theorem gtN_ (d : D) : gtN i d ρ = some (ρ.set i (.d d)) := rfl
@[simp] theorem sFor_ (tg : D → List S → Option (List S)) (it : List S → M (List D)) (body : G) : sFor tg it body ρ cs = stp (it ρ) (fun xs cs => gFor tg body xs ρ cs) ρ cs := rfl
@[simp] theorem iSeq_ (f : List S → M S) : iSeq f ρ cs = bnd (f ρ) (fun s => match s with
  | .d (.list xs) => ret xs
  | _ => stuck) cs := rfl
@[simp] theorem iTupM_ (f : List S → M S) : iTupM f ρ cs = bnd (f ρ) (fun s => match s with
  | .d (.tuple xs) => ret xs
  | _ => stuck) cs := rfl
@[simp] theorem iRng_ (f : List S → M S) : iRng f ρ cs = bnd (f ρ) (fun s => match s with
  | .d (.int j) => if -(2 ^ 62) ≤ j ∧ j < 2 ^ 62 then ret (rngD 0 j.toNat) else stuck
  | _ => stuck) cs := rfl
theorem gWhile_succ (t : List S → M Bool) (body : G) (n : Nat) : gWhile t body (n + 1) ρ cs = stp (t ρ) (fun b cs => if b = true then (match body ρ cs with
      | .nx ρ' cs' => gWhile t body n ρ' cs'
      | .ct ρ' cs' => gWhile t body n ρ' cs'
      | .bk ρ' cs' => .nx ρ' cs'
      | .rt r cs' => .rt r cs'
      | .er c ρ' cs' => .er c ρ' cs'
      | .no => .no) else .nx ρ cs) ρ cs := rfl
@[simp] theorem sSub_ (fo fi fe : List S → M S) : sSub fo fi fe ρ cs = stp (bnd (fe ρ) fun e => bnd (fo ρ) fun o => bnd (fi ρ) fun i => bnd (celM o) fun p => match e, i with
  | .d x, .d (.int k) => bnd (ofO (ixN p.2.length k)) fun j => putM p.1 (.lst (p.2.set j x))
  | _, _ => stuck) (fun _ cs => .nx ρ cs) ρ cs := rfl
@[simp] theorem runG_ (m : Nat) (g : G) (ss : List S) : runG m g ss cs = fin cs.length (g (ss ++ List.replicate m .no) cs) := rfl
@[simp] theorem fin_nx (n : Nat) : fin n (.nx ρ cs) = .ok (.d .none) (cs.take n) := rfl
@[simp] theorem fin_d (n : Nat) (x : D) : fin n (.rt (.d x) cs) = .ok (.d x) (cs.take n) := rfl
@[simp] theorem fin_own (n : Nat) (o : OC) : fin n (.rt (.own o) cs) = .ok (.own o) (cs.take n) := rfl
@[simp] theorem fin_er (n : Nat) (c : Str) : fin n (.er c ρ cs) = .er c (cs.take n) := rfl
@[simp] theorem fin_no (n : Nat) : fin n .no = .no := rfl
theorem fin_cel (n : Nat) : fin n (.rt (.cel j) cs) = if j < n then .ok (.cel j) (cs.take n) else match cs[j]? with
    | some o => .ok (.own o) (cs.take n)
    | none => .no := rfl
/-! calls -/
@[simp] theorem noCel_nil : noCel [] = true := rfl
@[simp] theorem noCel_d (x : D) (r : List S) : noCel (.d x :: r) = noCel r := rfl
@[simp] theorem noCel_fn (a : Addr) (r : List S) : noCel (.fn a :: r) = noCel r := rfl
@[simp] theorem callP_ (F : List S → M Rv) (ss : List S) : callP F ss cs = if noCel ss = true then (match F ss [] with
  | .ok (.d x) _ => .ok (.d x) cs
  | .ok (.own o) _ => .ok (.own o) cs
  | .ok (.cel _) _ => .no
  | .er c _ => .er c cs
  | .no => .no) else .no := rfl
@[simp] theorem callC_ (F : List S → M Rv) (r : List S) : callC F (.cel j :: r) cs = if noCel r = true then (match cs[j]? with
    | some o => match F (.cel 0 :: r) [o] with
      | .ok (.d x) [o'] => .ok (.d x) (cs.set j o')
      | .ok (.own u) [o'] => .ok (.own u) (cs.set j o')
      | .ok (.cel 0) [o'] => .ok (.cel j) (cs.set j o')
      | .er c [o'] => .er c (cs.set j o')
      | _ => .no
    | none => .no) else .no := rfl
@[simp] theorem eCall_ (F : List S → M Rv) (g : List S → M (List S)) : eCall F g ρ cs = bnd (g ρ) (callP F) cs := rfl
@[simp] theorem eCallC_ (F : List S → M Rv) (g : List S → M (List S)) : eCallC F g ρ cs = bnd (g ρ) (callC F) cs := rfl
@[simp] theorem eCallL_ (a : Addr) (F : List S → M Rv) (g : List S → M (List S)) : eCallL i a F g ρ cs = match ρ[i]? with
  | some (.fn b) => if b = a then bnd (g ρ) (fun ss cs => match callP F ss cs with
    | .er _ _ => .no
    | o => o) cs else .no
  | _ => .no := rfl
/-! data -/
@[simp] theorem addD_int (x y : Int) : addD (.int x) (.int y) = some (.int (x + y)) := rfl
@[simp] theorem subD_int (x y : Int) : subD (.int x) (.int y) = some (.int (x - y)) := rfl
@[simp] theorem mulD_int (x y : Int) : mulD (.int x) (.int y) = if x.natAbs.log2 + y.natAbs.log2 < 1000000 then some (.int (x * y)) else none := rfl
@[simp] theorem fdivD_int (x y : Int) : fdivD (.int x) (.int y) = if 0 < y ∧ y.natAbs.log2 < 9000 then some (.int (x / y)) else none := rfl
@[simp] theorem modD_int (x y : Int) : modD (.int x) (.int y) = if 0 < y then some (.int (x % y)) else none := rfl
@[simp] theorem powD_int (x y : Int) : powD (.int x) (.int y) = if 0 ≤ y ∧ y ≤ 1000000 ∧ x.natAbs < 2 ^ 64 then some (.int (x ^ y.toNat)) else none := rfl
@[simp] theorem negD_int (x : Int) : negD (.int x) = some (.int (-x)) := rfl
@[simp] theorem ltD_int (x y : Int) : ltD (.int x) (.int y) = some (decide (x < y)) := rfl
@[simp] theorem leD_int (x y : Int) : leD (.int x) (.int y) = some (decide (x ≤ y)) := rfl
@[simp] theorem gtD_int (x y : Int) : gtD (.int x) (.int y) = some (decide (y < x)) := rfl
@[simp] theorem geD_int (x y : Int) : geD (.int x) (.int y) = some (decide (y ≤ x)) := rfl
@[simp] theorem eqD_int (x y : Int) : eqD (.int x) (.int y) = some (x == y) := by simp [eqD, scalD, PyData.eqv]
@[simp] theorem eqD_str (x y : Str) : eqD (.str x) (.str y) = some (x == y) := by simp [eqD, scalD, PyData.eqv]
@[simp] theorem eqD_bool (x y : Bool) : eqD (.bool x) (.bool y) = some (x == y) := by simp [eqD, scalD, PyData.eqv]
@[simp] theorem eqD_str_int (x : Str) (y : Int) : eqD (.str x) (.int y) = some false := by simp [eqD, scalD, PyData.eqv]
@[simp] theorem eqD_int_str (x : Str) (y : Int) : eqD (.int y) (.str x) = some false := by simp [eqD, scalD, PyData.eqv]
@[simp] theorem neD_int (x y : Int) : neD (.int x) (.int y) = some (!(x == y)) := by simp [neD]
@[simp] theorem neD_str (x y : Str) : neD (.str x) (.str y) = some (!(x == y)) := by simp [neD]
@[simp] theorem isnD_none : isnD .none = some true := rfl
@[simp] theorem isnD_bool (b : Bool) : isnD (.bool b) = some false := rfl
@[simp] theorem isnD_int (b : Int) : isnD (.int b) = some false := rfl
@[simp] theorem isnD_str (b : Str) : isnD (.str b) = some false := rfl
@[simp] theorem isnD_list (b : List D) : isnD (.list b) = some false := rfl
@[simp] theorem isnD_tuple (b : List D) : isnD (.tuple b) = some false := rfl
@[simp] theorem truD_bool (b : Bool) : truD (.bool b) = some b := rfl
@[simp] theorem truD_none : truD .none = some false := rfl
@[simp] theorem truD_list (b : List D) : truD (.list b) = some (!b.isEmpty) := rfl
@[simp] theorem truD_tuple (b : List D) : truD (.tuple b) = some (!b.isEmpty) := rfl
@[simp] theorem lenG_list (b : List D) : lenG [.list b] = some (.int b.length) := rfl
@[simp] theorem lenG_tuple (b : List D) : lenG [.tuple b] = some (.int b.length) := rfl
@[simp] theorem minG_ (x y : Int) : minG [.int x, .int y] = some (.int (if y < x then y else x)) := rfl
@[simp] theorem maxG_ (x y : Int) : maxG [.int x, .int y] = some (.int (if y > x then y else x)) := rfl
@[simp] theorem intG_int (x : Int) : intG [.int x] = some (.int x) := rfl
@[simp] theorem intG_bool (x : Bool) : intG [.bool x] = some (.int (if x then 1 else 0)) := rfl
@[simp] theorem listG_list (x : List D) : listG [.list x] = some (.list x) := rfl
@[simp] theorem listG_tuple (x : List D) : listG [.tuple x] = some (.list x) := rfl
@[simp] theorem tupleG_list (x : List D) : tupleG [.list x] = some (.tuple x) := rfl
@[simp] theorem tupleG_tuple (x : List D) : tupleG [.tuple x] = some (.tuple x) := rfl
@[simp] theorem ixD_list (xs : List D) (k : Int) : ixD (.list xs) (.int k) = atI xs k := rfl
@[simp] theorem ixD_tuple (xs : List D) (k : Int) : ixD (.tuple xs) (.int k) = atI xs k := rfl
@[simp] theorem slD_list (xs : List D) (lo hi : Option Int) : slD (.list xs) lo hi = some (.list (cutD xs lo hi)) := rfl
@[simp] theorem slD_tuple (xs : List D) (lo hi : Option Int) : slD (.tuple xs) lo hi = some (.tuple (cutD xs lo hi)) := rfl
/-- an item at a place -/
theorem atI_of {α : Type} {xs : List α} {k : Int} {n : Nat} {x : α} (hk : k = (n : Int)) (h : xs[n]? = some x) : atI xs k = some x := by
  subst hk; exact atI_nat h
@[simp] theorem atI0 {α : Type} (x : α) (xs : List α) : atI (x :: xs) 0 = some x := atI_of (n := 0) rfl rfl
@[simp] theorem atI1 {α : Type} (x y : α) (xs : List α) : atI (x :: y :: xs) 1 = some y := atI_of (n := 1) rfl rfl
@[simp] theorem atI2 {α : Type} (x y z : α) (xs : List α) : atI (x :: y :: z :: xs) 2 = some z := atI_of (n := 2) rfl rfl
@[simp] theorem atI3 {α : Type} (x y z u : α) (xs : List α) : atI (x :: y :: z :: u :: xs) 3 = some u := atI_of (n := 3) rfl rfl
@[simp] theorem atI4 {α : Type} (x y z u v : α) (xs : List α) : atI (x :: y :: z :: u :: v :: xs) 4 = some v := atI_of (n := 4) rfl rfl
@[simp] theorem atI5 {α : Type} (x y z u v w : α) (xs : List α) : atI (x :: y :: z :: u :: v :: w :: xs) 5 = some w := atI_of (n := 5) rfl rfl
@[simp] theorem atI6 {α : Type} (x y z u v w p : α) (xs : List α) : atI (x :: y :: z :: u :: v :: w :: p :: xs) 6 = some p := atI_of (n := 6) rfl rfl
/-- xs[k:] -/
theorem cutD_from (xs : List D) (k : Nat) : cutD xs (some (k : Int)) none = xs.drop k := by
  unfold cutD
  rw [HT.sIx_nat, HT.sIx_none, List.take_of_length_le (by simp)]
  by_cases h : k ≤ xs.length
  · rw [Nat.min_eq_left h]
  · rw [Nat.min_eq_right (by omega), List.drop_of_length_le (Nat.le_refl _), List.drop_of_length_le (by omega)]
@[simp] theorem cutD1 (xs : List D) : cutD xs (some 1) none = xs.drop 1 := cutD_from xs 1
@[simp] theorem cutD2 (xs : List D) : cutD xs (some 2) none = xs.drop 2 := cutD_from xs 2
@[simp] theorem cutD3 (xs : List D) : cutD xs (some 3) none = xs.drop 3 := cutD_from xs 3
theorem size_ok {n : Nat} (h : n ≤ 16000000) : n ≤ sizeLine := by rw [sizeLine_eq]; omega
theorem size_lt {n : Nat} (h : n < 16000000) : n < sizeLine := by rw [sizeLine_eq]; omega
@[simp] theorem size0 : (0 : Nat) ≤ sizeLine := Nat.zero_le _
@[simp] theorem size1 : (1 : Nat) ≤ sizeLine := size_ok (by omega)
@[simp] theorem size2 : (2 : Nat) ≤ sizeLine := size_ok (by omega)
@[simp] theorem size3 : (3 : Nat) ≤ sizeLine := size_ok (by omega)
@[simp] theorem size4 : (4 : Nat) ≤ sizeLine := size_ok (by omega)
@[simp] theorem size5 : (5 : Nat) ≤ sizeLine := size_ok (by omega)
@[simp] theorem size6 : (6 : Nat) ≤ sizeLine := size_ok (by omega)
@[simp] theorem size7 : (7 : Nat) ≤ sizeLine := size_ok (by omega)
@[simp] theorem size8 : (8 : Nat) ≤ sizeLine := size_ok (by omega)
@[simp] theorem size9 : (9 : Nat) ≤ sizeLine := size_ok (by omega)
@[simp] theorem size10 : (10 : Nat) ≤ sizeLine := size_ok (by omega)
@[simp] theorem size11 : (11 : Nat) ≤ sizeLine := size_ok (by omega)
@[simp] theorem size12 : (12 : Nat) ≤ sizeLine := size_ok (by omega)
@[simp] theorem size13 : (13 : Nat) ≤ sizeLine := size_ok (by omega)
@[simp] theorem size14 : (14 : Nat) ≤ sizeLine := size_ok (by omega)
@[simp] theorem size15 : (15 : Nat) ≤ sizeLine := size_ok (by omega)
@[simp] theorem size16 : (16 : Nat) ≤ sizeLine := size_ok (by omega)
@[simp] theorem size17 : (17 : Nat) ≤ sizeLine := size_ok (by omega)
@[simp] theorem size18 : (18 : Nat) ≤ sizeLine := size_ok (by omega)
@[simp] theorem size19 : (19 : Nat) ≤ sizeLine := size_ok (by omega)
@[simp] theorem size20 : (20 : Nat) ≤ sizeLine := size_ok (by omega)
@[simp] theorem size21 : (21 : Nat) ≤ sizeLine := size_ok (by omega)
@[simp] theorem size22 : (22 : Nat) ≤ sizeLine := size_ok (by omega)
@[simp] theorem size23 : (23 : Nat) ≤ sizeLine := size_ok (by omega)
@[simp] theorem size24 : (24 : Nat) ≤ sizeLine := size_ok (by omega)
@[simp] theorem size25 : (25 : Nat) ≤ sizeLine := size_ok (by omega)
@[simp] theorem size26 : (26 : Nat) ≤ sizeLine := size_ok (by omega)
@[simp] theorem size27 : (27 : Nat) ≤ sizeLine := size_ok (by omega)
@[simp] theorem size28 : (28 : Nat) ≤ sizeLine := size_ok (by omega)
@[simp] theorem size29 : (29 : Nat) ≤ sizeLine := size_ok (by omega)
@[simp] theorem size30 : (30 : Nat) ≤ sizeLine := size_ok (by omega)
@[simp] theorem size31 : (31 : Nat) ≤ sizeLine := size_ok (by omega)
@[simp] theorem size32 : (32 : Nat) ≤ sizeLine := size_ok (by omega)
@[simp] theorem size33 : (33 : Nat) ≤ sizeLine := size_ok (by omega)
@[simp] theorem size34 : (34 : Nat) ≤ sizeLine := size_ok (by omega)
@[simp] theorem size35 : (35 : Nat) ≤ sizeLine := size_ok (by omega)
@[simp] theorem size36 : (36 : Nat) ≤ sizeLine := size_ok (by omega)
@[simp] theorem size37 : (37 : Nat) ≤ sizeLine := size_ok (by omega)
@[simp] theorem size38 : (38 : Nat) ≤ sizeLine := size_ok (by omega)
@[simp] theorem size39 : (39 : Nat) ≤ sizeLine := size_ok (by omega)
@[simp] theorem size40 : (40 : Nat) ≤ sizeLine := size_ok (by omega)
@[simp] theorem sizeLt0 : (0 : Nat) < sizeLine := size_lt (by omega)
@[simp] theorem flatD_none : flatD .none = true := rfl
@[simp] theorem flatD_bool (b : Bool) : flatD (.bool b) = true := rfl
@[simp] theorem flatD_int (b : Int) : flatD (.int b) = true := rfl
@[simp] theorem flatD_str (b : Str) : flatD (.str b) = true := rfl
@[simp] theorem eqv_str (a b : Str) : PyData.eqv (.str a) (.str b) = (a == b) := by simp [PyData.eqv]
@[simp] theorem eqv_int (a b : Int) : PyData.eqv (.int a) (.int b) = (a == b) := by simp [PyData.eqv]
@[simp] theorem eqv_int_str (a : Int) (b : Str) : PyData.eqv (.int a) (.str b) = false := by simp [PyData.eqv]
@[simp] theorem eqv_str_int (a : Int) (b : Str) : PyData.eqv (.str b) (.int a) = false := by simp [PyData.eqv]
theorem inD_tup (x : D) (ys : List D) : inD x (.tuple ys) = if (flatD x && ys.all flatD) = true then some (ys.any fun y => PyData.eqv y x) else none := rfl
theorem inD_lst (x : D) (ys : List D) : inD x (.list ys) = if (flatD x && ys.all flatD || (SeqAt.shaped x && SeqAt.shaped (.list ys))) = true then some (ys.any fun y => PyData.eqv y x) else none := rfl
@[simp] theorem inD_str (x : Str) (ys : List D) (h : ys.all flatD = true) : inD (.str x) (.tuple ys) = some (ys.any fun y => PyData.eqv y (.str x)) := by
  rw [inD_tup, h]; rfl
@[simp] theorem inD_int (x : Int) (ys : List D) (h : ys.all flatD = true) : inD (.int x) (.tuple ys) = some (ys.any fun y => PyData.eqv y (.int x)) := by
  rw [inD_tup, h]; rfl
@[simp] theorem inD_strL (x : Str) (ys : List D) (h : ys.all flatD = true) : inD (.str x) (.list ys) = some (ys.any fun y => PyData.eqv y (.str x)) := by
  rw [inD_lst, h]; rfl
@[simp] theorem inD_intL (x : Int) (ys : List D) (h : ys.all flatD = true) : inD (.int x) (.list ys) = some (ys.any fun y => PyData.eqv y (.int x)) := by
  rw [inD_lst, h]; rfl
@[simp] theorem isa_int_int (x : Int) : isaD "int" (.int x) = true := rfl
@[simp] theorem isa_bool_int (x : Int) : isaD "bool" (.int x) = false := rfl
@[simp] theorem isa_str_int (x : Int) : isaD "str" (.int x) = false := rfl
@[simp] theorem isa_list_int (x : Int) : isaD "list" (.int x) = false := rfl
@[simp] theorem isa_tuple_int (x : Int) : isaD "tuple" (.int x) = false := rfl
@[simp] theorem isa_int_bool (x : Bool) : isaD "int" (.bool x) = true := rfl
@[simp] theorem isa_bool_bool (x : Bool) : isaD "bool" (.bool x) = true := rfl
@[simp] theorem isa_str_bool (x : Bool) : isaD "str" (.bool x) = false := rfl
@[simp] theorem isa_list_bool (x : Bool) : isaD "list" (.bool x) = false := rfl
@[simp] theorem isa_tuple_bool (x : Bool) : isaD "tuple" (.bool x) = false := rfl
@[simp] theorem isa_int_str (x : Str) : isaD "int" (.str x) = false := rfl
@[simp] theorem isa_bool_str (x : Str) : isaD "bool" (.str x) = false := rfl
@[simp] theorem isa_str_str (x : Str) : isaD "str" (.str x) = true := rfl
@[simp] theorem isa_list_str (x : Str) : isaD "list" (.str x) = false := rfl
@[simp] theorem isa_tuple_str (x : Str) : isaD "tuple" (.str x) = false := rfl
@[simp] theorem isa_int_list (x : List D) : isaD "int" (.list x) = false := rfl
@[simp] theorem isa_bool_list (x : List D) : isaD "bool" (.list x) = false := rfl
@[simp] theorem isa_str_list (x : List D) : isaD "str" (.list x) = false := rfl
@[simp] theorem isa_list_list (x : List D) : isaD "list" (.list x) = true := rfl
@[simp] theorem isa_tuple_list (x : List D) : isaD "tuple" (.list x) = false := rfl
@[simp] theorem isa_int_tuple (x : List D) : isaD "int" (.tuple x) = false := rfl
@[simp] theorem isa_bool_tuple (x : List D) : isaD "bool" (.tuple x) = false := rfl
@[simp] theorem isa_str_tuple (x : List D) : isaD "str" (.tuple x) = false := rfl
@[simp] theorem isa_list_tuple (x : List D) : isaD "list" (.tuple x) = false := rfl
@[simp] theorem isa_tuple_tuple (x : List D) : isaD "tuple" (.tuple x) = true := rfl
@[simp] theorem isa_none (t : String) (h : (t == "NoneType") = false) : isaD t .none = false := h
@[simp] theorem strOk_lit (s : String) : PyData.strOk (Str.ofString s) = true := by
  rw [Str.ofString_eq_toList]
  simp only [PyData.strOk, List.all_toArray, List.all_eq_true, List.mem_map, decide_eq_true_eq]
  rintro n ⟨c, _, rfl⟩
  have h := c.valid
  unfold UInt32.isValidChar Nat.isValidChar at h
  show c.val.toNat < _
  omega
@[simp] theorem shaped_str (x : Str) : SeqAt.shaped (.str x) = PyData.strOk x := by simp [SeqAt.shaped, PyData.canLay0, PyData.depth]
@[simp] theorem shaped_int (x : Int) : SeqAt.shaped (.int x) = true := by simp [SeqAt.shaped, PyData.canLay0, PyData.depth]
@[simp] theorem shaped_bool (x : Bool) : SeqAt.shaped (.bool x) = true := by simp [SeqAt.shaped, PyData.canLay0, PyData.depth]
@[simp] theorem shaped_none : SeqAt.shaped .none = true := by simp [SeqAt.shaped, PyData.canLay0, PyData.depth]
theorem eqD_sh {a b : D} (ha : SeqAt.shaped a = true) (hb : SeqAt.shaped b = true) : eqD a b = some (PyData.eqv a b) := by
  unfold eqD; rw [ha, hb]; simp
@[simp] theorem eqD_tuple_str (x : List D) (y : Str) (ha : SeqAt.shaped (.tuple x) = true) (hb : PyData.strOk y = true) : eqD (.tuple x) (.str y) = some false := by
  rw [eqD_sh ha (by rw [shaped_str]; exact hb)]; simp [PyData.eqv]
@[simp] theorem eqD_list_str (x : List D) (y : Str) (ha : SeqAt.shaped (.list x) = true) (hb : PyData.strOk y = true) : eqD (.list x) (.str y) = some false := by
  rw [eqD_sh ha (by rw [shaped_str]; exact hb)]; simp [PyData.eqv]
@[simp] theorem eqD_none_int (x : Int) : eqD .none (.int x) = some false := by simp [eqD, scalD, PyData.eqv]
@[simp] theorem eqD_int_none (x : Int) : eqD (.int x) .none = some false := by simp [eqD, scalD, PyData.eqv]
@[simp] theorem eqD_none_str (x : Str) : eqD .none (.str x) = some false := by simp [eqD, scalD, PyData.eqv]
@[simp] theorem eqD_str_none (x : Str) : eqD (.str x) .none = some false := by simp [eqD, scalD, PyData.eqv]
@[simp] theorem eqD_none_none : eqD .none .none = some true := by simp [eqD, scalD, PyData.eqv]
theorem log2_lt {x : Int} {k : Nat} (hk : 0 < k) (h : x.natAbs < 2 ^ k) : x.natAbs.log2 < k := PySem.Flt.log2_lt_of hk h
end
end Dn

set_option Elab.async false
set_option linter.all false
set_option maxRecDepth 100000
set_option maxHeartbeats 4000000
namespace Law
open PySem L2 Dn
def B_is_number : G :=
    (sRet (eRv (eAndM (eIsa "int" (eV 0)) (eAndM (eNotM (eIsa "bool" (eV 0))) (eChn leD leD (eV 1) (eV 0) (eV 2))))))
def F_is_number : List S → M Rv := runG 0 B_is_number
def B_is_money : G :=
    (sRet (eCall F_is_number (aCons (eV 0) (aCons (eC (.int (0))) (aCons (eC (.int (1000000000000))) aNil)))))
def F_is_money : List S → M Rv := runG 0 B_is_money
def B_pays_in : G :=
    (gSeq (sIf (tT (eIsa "str" (eV 0))) (sRet (eRv (eIf (tOrM (op2 eqD (eV 0) (eC (.str "loss"))) (op2 eqD (eV 0) (eC (.str "sum")))) (eFrz (eLst aNil)) (eC .none)))) gNil)
    (gSeq (sIf (tT (eFrz (eCall F_is_money (aCons (eV 0) aNil)))) (sRet (eLst aNil)) gNil)
    (gSeq (sIf (tOrM (tNotM (tT (eIsa "tuple" (eV 0)))) (tOrM (op2 ltD (eCd lenG (aCons (eV 0) aNil)) (eC (.int (3)))) (tNotM (tT (eIsa "str" (eBin ixD (eV 0) (eC (.int (0))))))))) (sRet (eRv (eC .none))) gNil)
    (gSeq (sSet 1 (eBin ixD (eV 0) (eC (.int (0)))))
    (gSeq (sIf (tAndM (op2 inD (eV 1) (eTup (aCons (eC (.str "plus")) (aCons (eC (.str "minus")) (aCons (eC (.str "min")) (aCons (eC (.str "max")) aNil)))))) (op2 eqD (eCd lenG (aCons (eV 0) aNil)) (eC (.int (3))))) (sRet (eRv (eCd listG (aCons (eSl (eV 0) (oSome (eC (.int (1)))) oNone) aNil)))) gNil)
    (gSeq (sIf (tAndM (op2 eqD (eV 1) (eC (.str "times"))) (tAndM (op2 eqD (eCd lenG (aCons (eV 0) aNil)) (eC (.int (3)))) (tT (eFrz (eCall F_is_number (aCons (eBin ixD (eV 0) (eC (.int (1)))) (aCons (eC (.int (0))) (aCons (eC (.int (1000))) aNil)))))))) (sRet (eLst (aCons (eBin ixD (eV 0) (eC (.int (2)))) aNil))) gNil)
    (gSeq (sIf (tAndM (op2 eqD (eV 1) (eC (.str "over"))) (tAndM (op2 eqD (eCd lenG (aCons (eV 0) aNil)) (eC (.int (4)))) (tAndM (tT (eFrz (eCall F_is_money (aCons (eBin ixD (eV 0) (eC (.int (2)))) aNil)))) (tT (eFrz (eCall F_is_money (aCons (eBin ixD (eV 0) (eC (.int (3)))) aNil))))))) (sRet (eLst (aCons (eBin ixD (eV 0) (eC (.int (1)))) aNil))) gNil)
    (gSeq (sIf (tAndM (op2 eqD (eV 1) (eC (.str "if"))) (tAndM (op2 eqD (eCd lenG (aCons (eV 0) aNil)) (eC (.int (5)))) (tAndM (tT (eFrz (eCall F_is_money (aCons (eBin ixD (eV 0) (eC (.int (1)))) aNil)))) (tAndM (tT (eFrz (eCall F_is_money (aCons (eBin ixD (eV 0) (eC (.int (2)))) aNil)))) (op2 leD (eBin ixD (eV 0) (eC (.int (1)))) (eBin ixD (eV 0) (eC (.int (2))))))))) (sRet (eRv (eCd listG (aCons (eSl (eV 0) (oSome (eC (.int (3)))) oNone) aNil)))) gNil)
    (sRet (eRv (eC .none)))))))))))
def F_pays_in : List S → M Rv := runG 1 B_pays_in
def B_are_few__pays_in (K : PySem.W.Frag) : G :=
    (gSeq (sNew 2 (eLst (aCons (eV 0) aNil)))
    (gSeq (sSet 3 (eC (.int (0))))
    (gSeq (sWhile (fun _ _ => 100) (tAndM (tT (eV 2)) (op2 leD (eV 3) (eC (.int (60))))) (gSeq (sSet 4 (eFrz (eCallL 1 (He.ga K "pays_in") F_pays_in (aCons (eMt0 popG (eV 2)) aNil))))
      (gSeq (sIf (op1 isnD (eV 4)) (sRet (eRv (eC (.bool false)))) gNil)
      (gSeq (sSet 3 (eBin addD (eV 3) (eC (.int (1)))))
      (sExp (eMt extG (eV 2) (aCons (eV 4) aNil)))))))
    (sRet (eRv (eCmp leD (eV 3) (eC (.int (60)))))))))
def F_are_few__pays_in (K : PySem.W.Frag) : List S → M Rv := runG 3 (B_are_few__pays_in K)
def B_is_pay (K : PySem.W.Frag) : G :=
    (sRet (eCall (F_are_few__pays_in K) (aCons (eV 0) (aCons (eFn (He.ga K "pays_in")) aNil))))
def F_is_pay (K : PySem.W.Frag) : List S → M Rv := runG 0 (B_is_pay K)
def B_paid_by (f_paid_by : List S → M Rv) : G :=
    (gSeq (sIf (tT (eIsa "str" (eV 0))) (sRet (eRv (eIf (op2 eqD (eV 0) (eC (.str "loss"))) (eV 2) (eV 1)))) gNil)
    (gSeq (sIf (tT (eIsa "int" (eV 0))) (sRet (eRv (eV 0))) gNil)
    (gSeq (sSet 3 (eBin ixD (eV 0) (eC (.int (0)))))
    (gSeq (sIf (op2 eqD (eV 3) (eC (.str "times"))) (sRet (eRv (eBin mulD (eBin ixD (eV 0) (eC (.int (1)))) (eFrz (eCall f_paid_by (aCons (eBin ixD (eV 0) (eC (.int (2)))) (aCons (eV 1) (aCons (eV 2) aNil)))))))) gNil)
    (gSeq (sIf (op2 eqD (eV 3) (eC (.str "over"))) (sRet (eRv (eCd minG (aCons (eCd maxG (aCons (eBin subD (eFrz (eCall f_paid_by (aCons (eBin ixD (eV 0) (eC (.int (1)))) (aCons (eV 1) (aCons (eV 2) aNil))))) (eBin ixD (eV 0) (eC (.int (3))))) (aCons (eC (.int (0))) aNil))) (aCons (eBin ixD (eV 0) (eC (.int (2)))) aNil))))) gNil)
    (gSeq (sIf (op2 eqD (eV 3) (eC (.str "if"))) (sRet (eCall f_paid_by (aCons (eIf (tChn leD leD (eBin ixD (eV 0) (eC (.int (1)))) (eV 2) (eBin ixD (eV 0) (eC (.int (2))))) (eBin ixD (eV 0) (eC (.int (3)))) (eBin ixD (eV 0) (eC (.int (4))))) (aCons (eV 1) (aCons (eV 2) aNil))))) gNil)
    (gSeq (sSet 4 (eFrz (eCall f_paid_by (aCons (eBin ixD (eV 0) (eC (.int (1)))) (aCons (eV 1) (aCons (eV 2) aNil))))))
    (gSeq (sSet 5 (eFrz (eCall f_paid_by (aCons (eBin ixD (eV 0) (eC (.int (2)))) (aCons (eV 1) (aCons (eV 2) aNil))))))
    (gSeq (sIf (op2 eqD (eV 3) (eC (.str "min"))) (sRet (eRv (eCd minG (aCons (eV 4) (aCons (eV 5) aNil))))) gNil)
    (gSeq (sIf (op2 eqD (eV 3) (eC (.str "max"))) (sRet (eRv (eCd maxG (aCons (eV 4) (aCons (eV 5) aNil))))) gNil)
    (sRet (eRv (eIf (op2 eqD (eV 3) (eC (.str "plus"))) (eBin addD (eV 4) (eV 5)) (eBin subD (eV 4) (eV 5)))))))))))))))
def F_paid_by : Nat → List S → M Rv
  | 0 => F0
  | n + 1 => runG 3 (B_paid_by (F_paid_by n))
def B_pay (K : PySem.W.Frag) : G :=
    (gSeq (sIf (tOrM (tNotM (tT (eFrz (eCall (F_is_pay K) (aCons (eV 0) aNil))))) (tOrM (tNotM (tT (eFrz (eCall F_is_money (aCons (eV 1) aNil))))) (tNotM (tT (eFrz (eCall F_is_money (aCons (eV 2) aNil))))))) (sErr "BadWords") gNil)
    (sRet (eCall (F_paid_by 8) (aCons (eV 0) (aCons (eV 1) (aCons (eV 2) aNil))))))
def F_pay (K : PySem.W.Frag) : List S → M Rv := runG 0 (B_pay K)
def B__law_mixed : G :=
    (gSeq (sSet 2 (eBin modD (eBin addD (eBin addD (eBin mulD (eV 0) (eC (.int (48271)))) (eBin mulD (eV 1) (eC (.int (69621))))) (eC (.int (12345)))) (eC (.int (2147483647)))))
    (sRet (eRv (eBin modD (eBin addD (eBin mulD (eV 2) (eBin addD (eBin fdivD (eV 2) (eC (.int (65536)))) (eC (.int (3))))) (eV 1)) (eC (.int (2147483647)))))))
def F__law_mixed : List S → M Rv := runG 1 B__law_mixed
def B__law_numbers : G :=
    (gSeq (sNew 1 (eLst aNil))
    (gSeq (sFor (gtN 2) (iSeq (eV 0)) (sIf (op2 geD (eV 2) (eBin powD (eC (.int (10))) (eC (.int (18))))) (gSeq (sSet 3 (eV 2))
        (sFor (gtN 4) (iRng (eC (.int (60)))) (sIf (op2 gtD (eV 3) (eC (.int (0)))) (gSeq (sExp (eMt appG (eV 1) (aCons (eBin modD (eV 3) (eC (.int (1000000)))) aNil)))
            (sSet 3 (eBin fdivD (eV 3) (eC (.int (1000000)))))) gNil))) (gSeq (sExp (eMt appG (eV 1) (aCons (eBin modD (eV 2) (eC (.int (1000000)))) aNil)))
        (sFor (gtN 4) (iRng (eC (.int (5)))) (sExp (eMt appG (eV 1) (aCons (eBin modD (eFrz (eCall F__law_mixed (aCons (eFrz (eCall F__law_mixed (aCons (eBin modD (eV 2) (eC (.int (2147483647)))) (aCons (eV 4) aNil)))) (aCons (eBin addD (eV 4) (eC (.int (7)))) aNil)))) (eC (.int (1000000)))) aNil)))))))
    (sRet (eRv (eV 1)))))
def F__law_numbers : List S → M Rv := runG 4 B__law_numbers
def B__law_draw : G :=
    (gSeq (sSet 1 (eBin ixD (eV 0) (eC (.int (1)))))
    (gSeq (sSub (eV 0) (eC (.int (1))) (eBin addD (eV 1) (eC (.int (1)))))
    (gSeq (sIf (op2 ltD (eV 1) (eCd lenG (aCons (eBin ixD (eV 0) (eC (.int (0)))) aNil))) (sRet (eRv (eBin ixD (eBin ixD (eV 0) (eC (.int (0)))) (eV 1)))) gNil)
    (gSeq (sSet 2 (eBin addD (eC (.int (1))) (eV 1)))
    (gSeq (sIf (op2 gtD (eCd lenG (aCons (eBin ixD (eV 0) (eC (.int (0)))) aNil)) (eC (.int (0)))) (sSet 2 (eBin addD (eV 2) (eBin mulD (eC (.int (1009))) (eBin ixD (eBin ixD (eV 0) (eC (.int (0)))) (eC (.int (0))))))) gNil)
    (sRet (eRv (eBin modD (eFrz (eCall F__law_mixed (aCons (eFrz (eCall F__law_mixed (aCons (eV 2) (aCons (eV 1) aNil)))) (aCons (eC (.int (5))) aNil)))) (eC (.int (1000000)))))))))))
def F__law_draw : List S → M Rv := runG 2 B__law_draw
def B__law_all_equal (f__law_all_equal : List S → M Rv) (f__law_equal : List S → M Rv) : G :=
    (gSeq (sFor (gtN 2) (iRng (eCd lenG (aCons (eV 1) aNil))) (sIf (tNotM (tT (eFrz (eCall f__law_equal (aCons (eBin ixD (eV 0) (eV 2)) (aCons (eBin ixD (eV 1) (eV 2)) aNil)))))) (sRet (eRv (eC (.bool false)))) gNil))
    (sRet (eRv (eC (.bool true)))))
def B__law_equal (f__law_all_equal : List S → M Rv) (f__law_equal : List S → M Rv) : G :=
    (gSeq (sIf (tT (eIsa "list" (eV 1))) (gSeq (sIf (tOrM (tNotM (tT (eIsa "list" (eV 0)))) (op2 neD (eCd lenG (aCons (eV 0) aNil)) (eCd lenG (aCons (eV 1) aNil)))) (sRet (eRv (eC (.bool false)))) gNil)
      (sRet (eCall f__law_all_equal (aCons (eV 0) (aCons (eV 1) aNil))))) gNil)
    (gSeq (sIf (tT (eIsa "tuple" (eV 1))) (gSeq (sIf (tOrM (tNotM (tT (eIsa "tuple" (eV 0)))) (op2 neD (eCd lenG (aCons (eV 0) aNil)) (eCd lenG (aCons (eV 1) aNil)))) (sRet (eRv (eC (.bool false)))) gNil)
      (sRet (eCall f__law_all_equal (aCons (eV 0) (aCons (eV 1) aNil))))) gNil)
    (gSeq (sIf (tT (eIsa "bool" (eV 1))) (sRet (eRv (eAndM (eIsa "bool" (eV 0)) (eCmp eqD (eV 0) (eV 1))))) gNil)
    (gSeq (sIf (tT (eIsa "int" (eV 1))) (sRet (eRv (eAndM (eIsa "int" (eV 0)) (eAndM (eNotM (eIsa "bool" (eV 0))) (eCmp eqD (eV 0) (eV 1)))))) gNil)
    (gSeq (sIf (tT (eIsa "str" (eV 1))) (sRet (eRv (eAndM (eIsa "str" (eV 0)) (eCmp eqD (eV 0) (eV 1))))) gNil)
    (sRet (eRv (eIsN (eV 0)))))))))
mutual
def F__law_all_equal : Nat → List S → M Rv
  | 0 => F0
  | n + 1 => runG 1 (B__law_all_equal (F__law_all_equal n) (F__law_equal n))
def F__law_equal : Nat → List S → M Rv
  | 0 => F0
  | n + 1 => runG 0 (B__law_equal (F__law_all_equal n) (F__law_equal n))
end
def B__law_pay (f__law_pay : List S → M Rv) : G :=
    (gSeq (sIf (op2 eqD (eV 0) (eC (.str "loss"))) (sRet (eRv (eV 2))) gNil)
    (gSeq (sIf (op2 eqD (eV 0) (eC (.str "sum"))) (sRet (eRv (eV 1))) gNil)
    (gSeq (sIf (tT (eIsa "int" (eV 0))) (sRet (eRv (eV 0))) gNil)
    (gSeq (sSet 3 (eBin ixD (eV 0) (eC (.int (0)))))
    (gSeq (sIf (op2 eqD (eV 3) (eC (.str "times"))) (sRet (eRv (eBin mulD (eBin ixD (eV 0) (eC (.int (1)))) (eFrz (eCall f__law_pay (aCons (eBin ixD (eV 0) (eC (.int (2)))) (aCons (eV 1) (aCons (eV 2) aNil)))))))) gNil)
    (gSeq (sIf (op2 eqD (eV 3) (eC (.str "over"))) (sRet (eRv (eCd minG (aCons (eCd maxG (aCons (eBin subD (eFrz (eCall f__law_pay (aCons (eBin ixD (eV 0) (eC (.int (1)))) (aCons (eV 1) (aCons (eV 2) aNil))))) (eBin ixD (eV 0) (eC (.int (3))))) (aCons (eC (.int (0))) aNil))) (aCons (eBin ixD (eV 0) (eC (.int (2)))) aNil))))) gNil)
    (gSeq (sIf (op2 eqD (eV 3) (eC (.str "if"))) (sRet (eCall f__law_pay (aCons (eBin ixD (eV 0) (eBin addD (eC (.int (3))) (eCd intG (aCons (eNotM (eChn leD leD (eBin ixD (eV 0) (eC (.int (1)))) (eV 2) (eBin ixD (eV 0) (eC (.int (2)))))) aNil)))) (aCons (eV 1) (aCons (eV 2) aNil))))) gNil)
    (gSeq (sSet 4 (eFrz (eCall f__law_pay (aCons (eBin ixD (eV 0) (eC (.int (1)))) (aCons (eV 1) (aCons (eV 2) aNil))))))
    (gSeq (sSet 5 (eFrz (eCall f__law_pay (aCons (eBin ixD (eV 0) (eC (.int (2)))) (aCons (eV 1) (aCons (eV 2) aNil))))))
    (gSeq (sIf (op2 eqD (eV 3) (eC (.str "plus"))) (sRet (eRv (eBin addD (eV 4) (eV 5)))) gNil)
    (gSeq (sIf (op2 eqD (eV 3) (eC (.str "minus"))) (sRet (eRv (eBin subD (eV 4) (eV 5)))) gNil)
    (sRet (eRv (eIf (op2 eqD (eV 3) (eC (.str "min"))) (eCd minG (aCons (eV 4) (aCons (eV 5) aNil))) (eCd maxG (aCons (eV 4) (aCons (eV 5) aNil)))))))))))))))))
def F__law_pay : Nat → List S → M Rv
  | 0 => F0
  | n + 1 => runG 3 (B__law_pay (F__law_pay n))
def B__law_any_pay (f__law_any_pay : List S → M Rv) : G :=
    (gSeq (sSet 2 (eBin modD (eFrz (eCallC F__law_draw (aCons (eV 0) aNil))) (eC (.int (12)))))
    (gSeq (sSet 3 (eBin ixD (eFrz (eLst (aCons (eC (.int (0))) (aCons (eC (.int (1))) (aCons (eC (.int (2))) (aCons (eC (.int (5))) (aCons (eC (.int (10))) (aCons (eC (.int (50))) (aCons (eC (.int (1000))) (aCons (eBin powD (eC (.int (10))) (eC (.int (6)))) (aCons (eBin powD (eC (.int (10))) (eC (.int (12)))) aNil))))))))))) (eBin modD (eFrz (eCallC F__law_draw (aCons (eV 0) aNil))) (eC (.int (9))))))
    (gSeq (sIf (tOrM (op2 ltD (eV 2) (eC (.int (3)))) (op2 eqD (eV 1) (eC (.int (0))))) (sRet (eRv (eBin ixD (eFrz (eLst (aCons (eC (.str "loss")) (aCons (eC (.str "loss")) (aCons (eC (.str "sum")) (aCons (eV 3) (aCons (eV 3) aNil))))))) (eBin modD (eFrz (eCallC F__law_draw (aCons (eV 0) aNil))) (eC (.int (5))))))) gNil)
    (gSeq (sSet 4 (eFrz (eCallC f__law_any_pay (aCons (eV 0) (aCons (eBin subD (eV 1) (eC (.int (1)))) aNil)))))
    (gSeq (sIf (op2 eqD (eV 2) (eC (.int (3)))) (sRet (eRv (eTup (aCons (eC (.str "times")) (aCons (eBin ixD (eFrz (eLst (aCons (eC (.int (0))) (aCons (eC (.int (1))) (aCons (eC (.int (2))) (aCons (eC (.int (3))) (aCons (eC (.int (1000))) aNil))))))) (eBin modD (eFrz (eCallC F__law_draw (aCons (eV 0) aNil))) (eC (.int (5))))) (aCons (eV 4) aNil)))))) gNil)
    (gSeq (sIf (op2 eqD (eV 2) (eC (.int (4)))) (sRet (eRv (eTup (aCons (eC (.str "over")) (aCons (eV 4) (aCons (eV 3) (aCons (eBin ixD (eFrz (eLst (aCons (eC (.int (0))) (aCons (eC (.int (1))) (aCons (eC (.int (5))) (aCons (eC (.int (100))) aNil)))))) (eBin modD (eFrz (eCallC F__law_draw (aCons (eV 0) aNil))) (eC (.int (4))))) aNil))))))) gNil)
    (gSeq (sSet 5 (eFrz (eCallC f__law_any_pay (aCons (eV 0) (aCons (eBin subD (eV 1) (eC (.int (1)))) aNil)))))
    (gSeq (sIf (op2 eqD (eV 2) (eC (.int (5)))) (gSeq (sSet 6 (eBin ixD (eFrz (eLst (aCons (eC (.int (0))) (aCons (eC (.int (1))) (aCons (eC (.int (5))) (aCons (eC (.int (10))) (aCons (eC (.int (100))) aNil))))))) (eBin modD (eFrz (eCallC F__law_draw (aCons (eV 0) aNil))) (eC (.int (5))))))
      (sRet (eRv (eTup (aCons (eC (.str "if")) (aCons (eV 6) (aCons (eBin addD (eV 6) (eBin ixD (eFrz (eLst (aCons (eC (.int (0))) (aCons (eC (.int (1))) (aCons (eC (.int (5))) (aCons (eBin powD (eC (.int (10))) (eC (.int (6)))) aNil)))))) (eBin modD (eFrz (eCallC F__law_draw (aCons (eV 0) aNil))) (eC (.int (4)))))) (aCons (eV 4) (aCons (eV 5) aNil))))))))) gNil)
    (sRet (eRv (eTup (aCons (eBin ixD (eFrz (eLst (aCons (eC (.str "plus")) (aCons (eC (.str "minus")) (aCons (eC (.str "min")) (aCons (eC (.str "max")) aNil)))))) (eBin modD (eV 2) (eC (.int (4))))) (aCons (eV 4) (aCons (eV 5) aNil))))))))))))))
def F__law_any_pay : Nat → List S → M Rv
  | 0 => F0
  | n + 1 => runG 5 (B__law_any_pay (F__law_any_pay n))
def B_law (K : PySem.W.Frag) : G :=
    (gSeq (sNew 1 (eLst (aCons (eFrz (eCall F__law_numbers (aCons (eV 0) aNil))) (aCons (eC (.int (0))) aNil))))
    (gSeq (sFor (gtN 2) (iRng (eC (.int (7)))) (gSeq (sSet 3 (eFrz (eCallC (F__law_any_pay 8) (aCons (eV 1) (aCons (eBin addD (eBin modD (eV 2) (eC (.int (4)))) (eC (.int (1)))) aNil)))))
      (gSeq (sSet 4 (eBin ixD (eFrz (eLst (aCons (eC (.int (0))) (aCons (eC (.int (1))) (aCons (eC (.int (7))) (aCons (eC (.int (100))) (aCons (eBin powD (eC (.int (10))) (eC (.int (9)))) (aCons (eBin powD (eC (.int (10))) (eC (.int (12)))) aNil)))))))) (eBin modD (eFrz (eCallC F__law_draw (aCons (eV 1) aNil))) (eC (.int (6))))))
      (sFor (gtN 5) (iSeq (eFrz (eLst (aCons (eC (.int (0))) (aCons (eC (.int (1))) (aCons (eC (.int (2))) (aCons (eC (.int (5))) (aCons (eC (.int (6))) (aCons (eC (.int (10))) (aCons (eC (.int (11))) (aCons (eC (.int (99))) (aCons (eC (.int (100))) (aCons (eC (.int (101))) (aCons (eFrz (eCallC F__law_draw (aCons (eV 1) aNil))) (aCons (eBin powD (eC (.int (10))) (eC (.int (12)))) (aCons (eBin subD (eBin subD (eBin powD (eC (.int (10))) (eC (.int (12)))) (eC (.int (1)))) (eFrz (eCallC F__law_draw (aCons (eV 1) aNil)))) aNil)))))))))))))))) (sIf (tNotM (tT (eFrz (eCall (F__law_equal 3) (aCons (eFrz (eCall (F_pay K) (aCons (eV 3) (aCons (eV 4) (aCons (eV 5) aNil))))) (aCons (eFrz (eCall (F__law_pay 8) (aCons (eV 3) (aCons (eV 4) (aCons (eV 5) aNil))))) aNil)))))) (sRet (eRv (eC (.bool false)))) gNil)))))
    (sRet (eRv (eC (.bool true))))))
def F_law (K : PySem.W.Frag) : List S → M Rv := runG 5 (B_law K)
end Law

set_option Elab.async false
set_option linter.all false
set_option maxRecDepth 100000
set_option maxHeartbeats 1000000
namespace Law
open PySem L2 Dn
/-! the law's own helpers -/
theorem mulD_lt {x y : Int} (hx : x.natAbs < 2 ^ 250) (hy : y.natAbs < 2 ^ 250) : mulD (.int x) (.int y) = some (.int (x * y)) := by
  have h1 := log2_lt (x := x) (k := 250) (by omega) hx
  have h2 := log2_lt (x := y) (k := 250) (by omega) hy
  rw [mulD_int, if_pos (by omega)]
theorem fdivD_lt {x y : Int} (hy : 0 < y) (hy2 : y.natAbs < 2 ^ 250) : fdivD (.int x) (.int y) = some (.int (x / y)) := by
  have h2 := log2_lt (x := y) (k := 250) (by omega) hy2
  rw [fdivD_int, if_pos ⟨hy, by omega⟩]
def mx (n k : Int) : Int := ((n * 48271 + k * 69621 + 12345) % 2147483647 * ((n * 48271 + k * 69621 + 12345) % 2147483647 / 65536 + 3) + k) % 2147483647
theorem mx_lo (n k : Int) : 0 ≤ mx n k := Int.emod_nonneg _ (by decide)
theorem mx_hi (n k : Int) : mx n k < 2147483647 := Int.emod_lt_of_pos _ (by decide)
theorem mixed_ {n k : Int} (hn : n.natAbs < 2 ^ 64) (hk : k.natAbs < 2 ^ 64) : F__law_mixed [.d (.int n), .d (.int k)] [] = .ok (.d (.int (mx n k))) [] := by
  have h1 : mulD (.int n) (.int 48271) = some (.int (n * 48271)) := mulD_lt (Nat.lt_trans hn (by decide)) (by decide)
  have h2 : mulD (.int k) (.int 69621) = some (.int (k * 69621)) := mulD_lt (Nat.lt_trans hk (by decide)) (by decide)
  have h3 : ∀ x : Int, fdivD (.int x) (.int 65536) = some (.int (x / 65536)) := fun x => fdivD_lt (by decide) (by decide)
  have h4 : ∀ x y : Int, x.natAbs < 2 ^ 32 → y.natAbs < 2 ^ 32 → mulD (.int x) (.int y) = some (.int (x * y)) := fun x y hx hy => mulD_lt (Nat.lt_trans hx (by decide)) (Nat.lt_trans hy (by decide))
  have h5 : mulD (.int ((n * 48271 + k * 69621 + 12345) % 2147483647)) (.int ((n * 48271 + k * 69621 + 12345) % 2147483647 / 65536 + 3)) = some (.int ((n * 48271 + k * 69621 + 12345) % 2147483647 * ((n * 48271 + k * 69621 + 12345) % 2147483647 / 65536 + 3))) := by
    generalize n * 48271 + k * 69621 + 12345 = z
    have a1 : 0 ≤ z % 2147483647 := Int.emod_nonneg _ (by decide)
    have a2 : z % 2147483647 < 2147483647 := Int.emod_lt_of_pos _ (by decide)
    exact h4 _ _ (by omega) (by omega)
  simp only [F__law_mixed, B__law_mixed, mx]
  simp [h1, h2, h3, h5, -mulD_int, -fdivD_int]
/-- numbers of the law -/
def InR (l : List Int) : Prop := ∀ x ∈ l, 0 ≤ x ∧ x < 1000000
theorem inR_app {l : List Int} {x : Int} (h : InR l) (h1 : 0 ≤ x) (h2 : x < 1000000) : InR (l ++ [x]) := by
  intro y hy
  rcases List.mem_append.1 hy with hy | hy
  · exact h y hy
  · rw [List.mem_singleton.1 hy]; exact ⟨h1, h2⟩
theorem rngD_map (n : Nat) : ∀ (i : Int), rngD i n = ((List.range n).map fun (k : Nat) => i + (k : Int)).map .int := by
  intro i
  simp [rngD]
theorem num_in1 (x a b : S) : ∀ (js : List Int) (rest : Int) (acc : List Int) (c : S), InR acc → acc.length + js.length ≤ 10000 → ∃ acc' rest' c', gFor (gtN 4) (sIf (op2 gtD (eV 3) (eC (.int (0)))) (gSeq (sExp (eMt appG (eV 1) (aCons (eBin modD (eV 3) (eC (.int (1000000)))) aNil)))
            (sSet 3 (eBin fdivD (eV 3) (eC (.int (1000000)))))) gNil) (js.map .int) [x, .cel 0, a, .d (.int rest), c] [.lst (acc.map .int)] = .nx [x, .cel 0, a, .d (.int rest'), c'] [.lst (acc'.map .int)] ∧ InR acc' ∧ acc'.length ≤ acc.length + js.length
  | [], rest, acc, c, h1, h2 => ⟨acc, rest, c, by simp, h1, by simp⟩
  | j :: js, rest, acc, c, h1, h2 => by
    simp at h2
    have h3 : ∀ x : Int, fdivD (.int x) (.int 1000000) = some (.int (x / 1000000)) := fun x => fdivD_lt (by decide) (by decide)
    rw [List.map_cons, gFor_cons]
    by_cases hc : 0 < rest
    · obtain ⟨acc', rest', c', e, e1, e2⟩ := num_in1 x a b js (rest / 1000000) (acc ++ [rest % 1000000]) (.d (.int j)) (inR_app h1 (by omega) (by omega)) (by simp; omega)
      refine ⟨acc', rest', c', ?_, e1, by simp at e2 ⊢; omega⟩
      have l1 : acc.length < sizeLine := size_lt (by omega)
      have l2 : acc.length ≤ sizeLine := size_ok (by omega)
      simp at e
      simp [hc, h3, l1, l2, e, -fdivD_int]
    · obtain ⟨acc', rest', c', e, e1, e2⟩ := num_in1 x a b js rest acc (.d (.int j)) h1 (by omega)
      refine ⟨acc', rest', c', ?_, e1, by simp; omega⟩
      simp [hc, e]
theorem num_in2 (x b : S) (v : Int) : ∀ (js : List Int) (acc : List Int) (c : S), (∀ j ∈ js, 0 ≤ j ∧ j ≤ 10) → InR acc → acc.length + js.length ≤ 10000 → ∃ acc' c', gFor (gtN 4) (sExp (eMt appG (eV 1) (aCons (eBin modD (eFrz (eCall F__law_mixed (aCons (eFrz (eCall F__law_mixed (aCons (eBin modD (eV 2) (eC (.int (2147483647)))) (aCons (eV 4) aNil)))) (aCons (eBin addD (eV 4) (eC (.int (7)))) aNil)))) (eC (.int (1000000)))) aNil))) (js.map .int) [x, .cel 0, .d (.int v), b, c] [.lst (acc.map .int)] = .nx [x, .cel 0, .d (.int v), b, c'] [.lst (acc'.map .int)] ∧ InR acc' ∧ acc'.length ≤ acc.length + js.length
  | [], acc, c, h0, h1, h2 => ⟨acc, c, by simp, h1, by simp⟩
  | j :: js, acc, c, h0, h1, h2 => by
    simp at h2
    rw [List.map_cons, gFor_cons]
    have hj := h0 j (by simp)
    have a1 : 0 ≤ v % 2147483647 := Int.emod_nonneg _ (by decide)
    have a2 : v % 2147483647 < 2147483647 := Int.emod_lt_of_pos _ (by decide)
    have m1 := mixed_ (n := v % 2147483647) (k := j) (by omega) (by omega)
    have b1 := mx_lo (v % 2147483647) j
    have b2 := mx_hi (v % 2147483647) j
    have m2 := mixed_ (n := mx (v % 2147483647) j) (k := j + 7) (by omega) (by omega)
    obtain ⟨acc', c', e, e1, e2⟩ := num_in2 x b v js (acc ++ [mx (mx (v % 2147483647) j) (j + 7) % 1000000]) (.d (.int j)) (fun k hk => h0 k (by simp [hk])) (inR_app h1 (by omega) (by omega)) (by simp; omega)
    refine ⟨acc', c', ?_, e1, by simp at e2 ⊢; omega⟩
    have l1 : acc.length < sizeLine := size_lt (by omega)
    have l2 : acc.length ≤ sizeLine := size_ok (by omega)
    simp at e
    simp [m1, m2, l1, l2, e]
theorem num_out (x : S) : ∀ (ns : List Int) (acc : List Int) (a b c : S), InR acc → acc.length + 60 * ns.length ≤ 10000 → ∃ acc' a' b' c', gFor (gtN 2) (sIf (op2 geD (eV 2) (eBin powD (eC (.int (10))) (eC (.int (18))))) (gSeq (sSet 3 (eV 2))
        (sFor (gtN 4) (iRng (eC (.int (60)))) (sIf (op2 gtD (eV 3) (eC (.int (0)))) (gSeq (sExp (eMt appG (eV 1) (aCons (eBin modD (eV 3) (eC (.int (1000000)))) aNil)))
            (sSet 3 (eBin fdivD (eV 3) (eC (.int (1000000)))))) gNil))) (gSeq (sExp (eMt appG (eV 1) (aCons (eBin modD (eV 2) (eC (.int (1000000)))) aNil)))
        (sFor (gtN 4) (iRng (eC (.int (5)))) (sExp (eMt appG (eV 1) (aCons (eBin modD (eFrz (eCall F__law_mixed (aCons (eFrz (eCall F__law_mixed (aCons (eBin modD (eV 2) (eC (.int (2147483647)))) (aCons (eV 4) aNil)))) (aCons (eBin addD (eV 4) (eC (.int (7)))) aNil)))) (eC (.int (1000000)))) aNil)))))) (ns.map .int) [x, .cel 0, a, b, c] [.lst (acc.map .int)] = .nx [x, .cel 0, a', b', c'] [.lst (acc'.map .int)] ∧ InR acc' ∧ acc'.length ≤ acc.length + 60 * ns.length
  | [], acc, a, b, c, h1, h2 => ⟨acc, a, b, c, by simp, h1, by simp⟩
  | v :: ns, acc, a, b, c, h1, h2 => by
    simp at h2
    rw [List.map_cons, gFor_cons]
    by_cases hc : (1000000000000000000 : Int) ≤ v
    · obtain ⟨acc1, rest1, c1, e, e1, e2⟩ := num_in1 x (.d (.int v)) b ((List.range 60).map fun (k : Nat) => 0 + (k : Int)) v acc c h1 (by simp; omega)
      rw [← rngD_map] at e
      obtain ⟨acc', a', b', c', f, f1, f2⟩ := num_out x ns acc1 (.d (.int v)) (.d (.int rest1)) c1 e1 (by simp at e2; omega)
      refine ⟨acc', a', b', c', ?_, f1, by simp at e2 ⊢; omega⟩
      simp [hc, e, f]
    · have l1 : acc.length < sizeLine := size_lt (by omega)
      have l2 : acc.length ≤ sizeLine := size_ok (by omega)
      obtain ⟨acc1, c1, e, e1, e2⟩ := num_in2 x b v ((List.range 5).map fun (k : Nat) => 0 + (k : Int)) (acc ++ [v % 1000000]) c (by intro j hj; simp at hj; omega) (inR_app h1 (by omega) (by omega)) (by simp; omega)
      rw [← rngD_map] at e
      obtain ⟨acc', a', b', c', f, f1, f2⟩ := num_out x ns acc1 (.d (.int v)) b c1 e1 (by simp at e2; omega)
      refine ⟨acc', a', b', c', ?_, f1, by simp at e2 ⊢; omega⟩
      simp at e
      simp [hc, l1, l2, e, f]
theorem numbers_ (ns : List Int) (h : ns.length ≤ 100) : ∃ nums, F__law_numbers [.d (.list (ns.map .int))] [] = .ok (.own (.lst (nums.map .int))) [] ∧ InR nums ∧ nums.length ≤ 6000 := by
  obtain ⟨acc', a', b', c', f, f1, f2⟩ := num_out (.d (.list (ns.map .int))) ns [] .no .no .no (by intro x hx; cases hx) (by simp; omega)
  refine ⟨acc', ?_, f1, by simp at f2; omega⟩
  simp at f
  simp [F__law_numbers, B__law_numbers, f, fin_cel]
theorem gdI {l : List Int} {k : Nat} {d : Int} (h : k < l.length) : l.getD k d = l[k] := by
  simp [List.getD_eq_getElem?_getD, h]
/-- the draws -/
def DS (nums : List Int) (k : Nat) : Store := [.lst [.list (nums.map .int), .int k]]
def dr (nums : List Int) (k : Nat) : Int := if k < nums.length then nums.getD k 0 else mx (mx (if 0 < nums.length then 1 + (k : Int) + 1009 * nums.getD 0 0 else 1 + (k : Int)) k) 5 % 1000000
theorem dr_lo {nums : List Int} {k : Nat} (h : InR nums) : 0 ≤ dr nums k := by
  unfold dr
  split
  next hk => rw [gdI hk]; exact (h _ (List.getElem_mem hk)).1
  next => exact Int.emod_nonneg _ (by decide)
theorem dr_hi {nums : List Int} {k : Nat} (h : InR nums) : dr nums k < 1000000 := by
  unfold dr
  split
  next hk => rw [gdI hk]; exact (h _ (List.getElem_mem hk)).2
  next => exact Int.emod_lt_of_pos _ (by decide)
theorem draw_ {nums : List Int} {k : Nat} (h : InR nums) (hk : k < 1000000000000) : F__law_draw [.cel 0] (DS nums k) = .ok (.d (.int (dr nums k))) (DS nums (k + 1)) := by
  have i1 : ixN 2 1 = some 1 := rfl
  by_cases c : k < nums.length
  · have c1 : (k : Int) < nums.length := by omega
    have e1 : atI (nums.map PyData.int) (k : Int) = some (.int (dr nums k)) := by
      refine atI_of rfl ?_
      unfold dr
      rw [if_pos c, gdI c]
      simp [c]
    simp [F__law_draw, B__law_draw, DS, i1, c1, e1]
  · have c1 : ¬ (k : Int) < nums.length := by omega
    by_cases c2 : 0 < nums.length
    · have c3 : 0 < (nums.length : Int) := by omega
      have c4 : nums.getD 0 0 = nums[0] := by rw [gdI c2]
      have c5 := h nums[0] (List.getElem_mem c2)
      have e1 : atI (nums.map PyData.int) (0 : Int) = some (.int (nums.getD 0 0)) := by
        refine atI_of (n := 0) rfl ?_
        rw [c4]
        simp [c2]
      have e2 : mulD (.int 1009) (.int (nums.getD 0 0)) = some (.int (1009 * nums.getD 0 0)) := mulD_lt (by decide) (Nat.lt_trans (m := 1000000) (by rw [c4]; omega) (by decide))
      have m1 := mixed_ (n := 1 + (k : Int) + 1009 * nums.getD 0 0) (k := k) (by rw [c4]; omega) (by omega)
      have b1 := mx_lo (1 + (k : Int) + 1009 * nums.getD 0 0) k
      have b2 := mx_hi (1 + (k : Int) + 1009 * nums.getD 0 0) k
      have m2 := mixed_ (n := mx (1 + (k : Int) + 1009 * nums.getD 0 0) k) (k := 5) (by omega) (by decide)
      have d1 : dr nums k = mx (mx (1 + (k : Int) + 1009 * nums.getD 0 0) k) 5 % 1000000 := by
        unfold dr; rw [if_neg c, if_pos c2]
      generalize nums.getD 0 0 = z at e1 e2 m1 m2 d1
      simp [F__law_draw, B__law_draw, DS, i1, c1, c2, e1, e2, m1, m2, d1, -mulD_int]
    · have c3 : nums = [] := by
        cases nums with
        | nil => rfl
        | cons x l => simp at c2
      subst c3
      have m1 := mixed_ (n := 1 + (k : Int)) (k := k) (by omega) (by omega)
      have b1 := mx_lo (1 + (k : Int)) k
      have b2 := mx_hi (1 + (k : Int)) k
      have m2 := mixed_ (n := mx (1 + (k : Int)) k) (k := 5) (by omega) (by decide)
      have c1 : ¬ (k : Int) < 0 := by omega
      simp [F__law_draw, B__law_draw, DS, i1, c1, m1, m2, dr]
@[simp] theorem sp0 : (("loss" : Str) == ("sum" : Str)) = false := rfl
@[simp] theorem sq0 : (("loss" : Str) = ("sum" : Str)) = False := eq_false (by decide)
@[simp] theorem sp1 : (("loss" : Str) == ("plus" : Str)) = false := rfl
@[simp] theorem sq1 : (("loss" : Str) = ("plus" : Str)) = False := eq_false (by decide)
@[simp] theorem sp2 : (("loss" : Str) == ("minus" : Str)) = false := rfl
@[simp] theorem sq2 : (("loss" : Str) = ("minus" : Str)) = False := eq_false (by decide)
@[simp] theorem sp3 : (("loss" : Str) == ("min" : Str)) = false := rfl
@[simp] theorem sq3 : (("loss" : Str) = ("min" : Str)) = False := eq_false (by decide)
@[simp] theorem sp4 : (("loss" : Str) == ("max" : Str)) = false := rfl
@[simp] theorem sq4 : (("loss" : Str) = ("max" : Str)) = False := eq_false (by decide)
@[simp] theorem sp5 : (("loss" : Str) == ("times" : Str)) = false := rfl
@[simp] theorem sq5 : (("loss" : Str) = ("times" : Str)) = False := eq_false (by decide)
@[simp] theorem sp6 : (("loss" : Str) == ("over" : Str)) = false := rfl
@[simp] theorem sq6 : (("loss" : Str) = ("over" : Str)) = False := eq_false (by decide)
@[simp] theorem sp7 : (("loss" : Str) == ("if" : Str)) = false := rfl
@[simp] theorem sq7 : (("loss" : Str) = ("if" : Str)) = False := eq_false (by decide)
@[simp] theorem sp8 : (("sum" : Str) == ("loss" : Str)) = false := rfl
@[simp] theorem sq8 : (("sum" : Str) = ("loss" : Str)) = False := eq_false (by decide)
@[simp] theorem sp9 : (("sum" : Str) == ("plus" : Str)) = false := rfl
@[simp] theorem sq9 : (("sum" : Str) = ("plus" : Str)) = False := eq_false (by decide)
@[simp] theorem sp10 : (("sum" : Str) == ("minus" : Str)) = false := rfl
@[simp] theorem sq10 : (("sum" : Str) = ("minus" : Str)) = False := eq_false (by decide)
@[simp] theorem sp11 : (("sum" : Str) == ("min" : Str)) = false := rfl
@[simp] theorem sq11 : (("sum" : Str) = ("min" : Str)) = False := eq_false (by decide)
@[simp] theorem sp12 : (("sum" : Str) == ("max" : Str)) = false := rfl
@[simp] theorem sq12 : (("sum" : Str) = ("max" : Str)) = False := eq_false (by decide)
@[simp] theorem sp13 : (("sum" : Str) == ("times" : Str)) = false := rfl
@[simp] theorem sq13 : (("sum" : Str) = ("times" : Str)) = False := eq_false (by decide)
@[simp] theorem sp14 : (("sum" : Str) == ("over" : Str)) = false := rfl
@[simp] theorem sq14 : (("sum" : Str) = ("over" : Str)) = False := eq_false (by decide)
@[simp] theorem sp15 : (("sum" : Str) == ("if" : Str)) = false := rfl
@[simp] theorem sq15 : (("sum" : Str) = ("if" : Str)) = False := eq_false (by decide)
@[simp] theorem sp16 : (("plus" : Str) == ("loss" : Str)) = false := rfl
@[simp] theorem sq16 : (("plus" : Str) = ("loss" : Str)) = False := eq_false (by decide)
@[simp] theorem sp17 : (("plus" : Str) == ("sum" : Str)) = false := rfl
@[simp] theorem sq17 : (("plus" : Str) = ("sum" : Str)) = False := eq_false (by decide)
@[simp] theorem sp18 : (("plus" : Str) == ("minus" : Str)) = false := rfl
@[simp] theorem sq18 : (("plus" : Str) = ("minus" : Str)) = False := eq_false (by decide)
@[simp] theorem sp19 : (("plus" : Str) == ("min" : Str)) = false := rfl
@[simp] theorem sq19 : (("plus" : Str) = ("min" : Str)) = False := eq_false (by decide)
@[simp] theorem sp20 : (("plus" : Str) == ("max" : Str)) = false := rfl
@[simp] theorem sq20 : (("plus" : Str) = ("max" : Str)) = False := eq_false (by decide)
@[simp] theorem sp21 : (("plus" : Str) == ("times" : Str)) = false := rfl
@[simp] theorem sq21 : (("plus" : Str) = ("times" : Str)) = False := eq_false (by decide)
@[simp] theorem sp22 : (("plus" : Str) == ("over" : Str)) = false := rfl
@[simp] theorem sq22 : (("plus" : Str) = ("over" : Str)) = False := eq_false (by decide)
@[simp] theorem sp23 : (("plus" : Str) == ("if" : Str)) = false := rfl
@[simp] theorem sq23 : (("plus" : Str) = ("if" : Str)) = False := eq_false (by decide)
@[simp] theorem sp24 : (("minus" : Str) == ("loss" : Str)) = false := rfl
@[simp] theorem sq24 : (("minus" : Str) = ("loss" : Str)) = False := eq_false (by decide)
@[simp] theorem sp25 : (("minus" : Str) == ("sum" : Str)) = false := rfl
@[simp] theorem sq25 : (("minus" : Str) = ("sum" : Str)) = False := eq_false (by decide)
@[simp] theorem sp26 : (("minus" : Str) == ("plus" : Str)) = false := rfl
@[simp] theorem sq26 : (("minus" : Str) = ("plus" : Str)) = False := eq_false (by decide)
@[simp] theorem sp27 : (("minus" : Str) == ("min" : Str)) = false := rfl
@[simp] theorem sq27 : (("minus" : Str) = ("min" : Str)) = False := eq_false (by decide)
@[simp] theorem sp28 : (("minus" : Str) == ("max" : Str)) = false := rfl
@[simp] theorem sq28 : (("minus" : Str) = ("max" : Str)) = False := eq_false (by decide)
@[simp] theorem sp29 : (("minus" : Str) == ("times" : Str)) = false := rfl
@[simp] theorem sq29 : (("minus" : Str) = ("times" : Str)) = False := eq_false (by decide)
@[simp] theorem sp30 : (("minus" : Str) == ("over" : Str)) = false := rfl
@[simp] theorem sq30 : (("minus" : Str) = ("over" : Str)) = False := eq_false (by decide)
@[simp] theorem sp31 : (("minus" : Str) == ("if" : Str)) = false := rfl
@[simp] theorem sq31 : (("minus" : Str) = ("if" : Str)) = False := eq_false (by decide)
@[simp] theorem sp32 : (("min" : Str) == ("loss" : Str)) = false := rfl
@[simp] theorem sq32 : (("min" : Str) = ("loss" : Str)) = False := eq_false (by decide)
@[simp] theorem sp33 : (("min" : Str) == ("sum" : Str)) = false := rfl
@[simp] theorem sq33 : (("min" : Str) = ("sum" : Str)) = False := eq_false (by decide)
@[simp] theorem sp34 : (("min" : Str) == ("plus" : Str)) = false := rfl
@[simp] theorem sq34 : (("min" : Str) = ("plus" : Str)) = False := eq_false (by decide)
@[simp] theorem sp35 : (("min" : Str) == ("minus" : Str)) = false := rfl
@[simp] theorem sq35 : (("min" : Str) = ("minus" : Str)) = False := eq_false (by decide)
@[simp] theorem sp36 : (("min" : Str) == ("max" : Str)) = false := rfl
@[simp] theorem sq36 : (("min" : Str) = ("max" : Str)) = False := eq_false (by decide)
@[simp] theorem sp37 : (("min" : Str) == ("times" : Str)) = false := rfl
@[simp] theorem sq37 : (("min" : Str) = ("times" : Str)) = False := eq_false (by decide)
@[simp] theorem sp38 : (("min" : Str) == ("over" : Str)) = false := rfl
@[simp] theorem sq38 : (("min" : Str) = ("over" : Str)) = False := eq_false (by decide)
@[simp] theorem sp39 : (("min" : Str) == ("if" : Str)) = false := rfl
@[simp] theorem sq39 : (("min" : Str) = ("if" : Str)) = False := eq_false (by decide)
@[simp] theorem sp40 : (("max" : Str) == ("loss" : Str)) = false := rfl
@[simp] theorem sq40 : (("max" : Str) = ("loss" : Str)) = False := eq_false (by decide)
@[simp] theorem sp41 : (("max" : Str) == ("sum" : Str)) = false := rfl
@[simp] theorem sq41 : (("max" : Str) = ("sum" : Str)) = False := eq_false (by decide)
@[simp] theorem sp42 : (("max" : Str) == ("plus" : Str)) = false := rfl
@[simp] theorem sq42 : (("max" : Str) = ("plus" : Str)) = False := eq_false (by decide)
@[simp] theorem sp43 : (("max" : Str) == ("minus" : Str)) = false := rfl
@[simp] theorem sq43 : (("max" : Str) = ("minus" : Str)) = False := eq_false (by decide)
@[simp] theorem sp44 : (("max" : Str) == ("min" : Str)) = false := rfl
@[simp] theorem sq44 : (("max" : Str) = ("min" : Str)) = False := eq_false (by decide)
@[simp] theorem sp45 : (("max" : Str) == ("times" : Str)) = false := rfl
@[simp] theorem sq45 : (("max" : Str) = ("times" : Str)) = False := eq_false (by decide)
@[simp] theorem sp46 : (("max" : Str) == ("over" : Str)) = false := rfl
@[simp] theorem sq46 : (("max" : Str) = ("over" : Str)) = False := eq_false (by decide)
@[simp] theorem sp47 : (("max" : Str) == ("if" : Str)) = false := rfl
@[simp] theorem sq47 : (("max" : Str) = ("if" : Str)) = False := eq_false (by decide)
@[simp] theorem sp48 : (("times" : Str) == ("loss" : Str)) = false := rfl
@[simp] theorem sq48 : (("times" : Str) = ("loss" : Str)) = False := eq_false (by decide)
@[simp] theorem sp49 : (("times" : Str) == ("sum" : Str)) = false := rfl
@[simp] theorem sq49 : (("times" : Str) = ("sum" : Str)) = False := eq_false (by decide)
@[simp] theorem sp50 : (("times" : Str) == ("plus" : Str)) = false := rfl
@[simp] theorem sq50 : (("times" : Str) = ("plus" : Str)) = False := eq_false (by decide)
@[simp] theorem sp51 : (("times" : Str) == ("minus" : Str)) = false := rfl
@[simp] theorem sq51 : (("times" : Str) = ("minus" : Str)) = False := eq_false (by decide)
@[simp] theorem sp52 : (("times" : Str) == ("min" : Str)) = false := rfl
@[simp] theorem sq52 : (("times" : Str) = ("min" : Str)) = False := eq_false (by decide)
@[simp] theorem sp53 : (("times" : Str) == ("max" : Str)) = false := rfl
@[simp] theorem sq53 : (("times" : Str) = ("max" : Str)) = False := eq_false (by decide)
@[simp] theorem sp54 : (("times" : Str) == ("over" : Str)) = false := rfl
@[simp] theorem sq54 : (("times" : Str) = ("over" : Str)) = False := eq_false (by decide)
@[simp] theorem sp55 : (("times" : Str) == ("if" : Str)) = false := rfl
@[simp] theorem sq55 : (("times" : Str) = ("if" : Str)) = False := eq_false (by decide)
@[simp] theorem sp56 : (("over" : Str) == ("loss" : Str)) = false := rfl
@[simp] theorem sq56 : (("over" : Str) = ("loss" : Str)) = False := eq_false (by decide)
@[simp] theorem sp57 : (("over" : Str) == ("sum" : Str)) = false := rfl
@[simp] theorem sq57 : (("over" : Str) = ("sum" : Str)) = False := eq_false (by decide)
@[simp] theorem sp58 : (("over" : Str) == ("plus" : Str)) = false := rfl
@[simp] theorem sq58 : (("over" : Str) = ("plus" : Str)) = False := eq_false (by decide)
@[simp] theorem sp59 : (("over" : Str) == ("minus" : Str)) = false := rfl
@[simp] theorem sq59 : (("over" : Str) = ("minus" : Str)) = False := eq_false (by decide)
@[simp] theorem sp60 : (("over" : Str) == ("min" : Str)) = false := rfl
@[simp] theorem sq60 : (("over" : Str) = ("min" : Str)) = False := eq_false (by decide)
@[simp] theorem sp61 : (("over" : Str) == ("max" : Str)) = false := rfl
@[simp] theorem sq61 : (("over" : Str) = ("max" : Str)) = False := eq_false (by decide)
@[simp] theorem sp62 : (("over" : Str) == ("times" : Str)) = false := rfl
@[simp] theorem sq62 : (("over" : Str) = ("times" : Str)) = False := eq_false (by decide)
@[simp] theorem sp63 : (("over" : Str) == ("if" : Str)) = false := rfl
@[simp] theorem sq63 : (("over" : Str) = ("if" : Str)) = False := eq_false (by decide)
@[simp] theorem sp64 : (("if" : Str) == ("loss" : Str)) = false := rfl
@[simp] theorem sq64 : (("if" : Str) = ("loss" : Str)) = False := eq_false (by decide)
@[simp] theorem sp65 : (("if" : Str) == ("sum" : Str)) = false := rfl
@[simp] theorem sq65 : (("if" : Str) = ("sum" : Str)) = False := eq_false (by decide)
@[simp] theorem sp66 : (("if" : Str) == ("plus" : Str)) = false := rfl
@[simp] theorem sq66 : (("if" : Str) = ("plus" : Str)) = False := eq_false (by decide)
@[simp] theorem sp67 : (("if" : Str) == ("minus" : Str)) = false := rfl
@[simp] theorem sq67 : (("if" : Str) = ("minus" : Str)) = False := eq_false (by decide)
@[simp] theorem sp68 : (("if" : Str) == ("min" : Str)) = false := rfl
@[simp] theorem sq68 : (("if" : Str) = ("min" : Str)) = False := eq_false (by decide)
@[simp] theorem sp69 : (("if" : Str) == ("max" : Str)) = false := rfl
@[simp] theorem sq69 : (("if" : Str) = ("max" : Str)) = False := eq_false (by decide)
@[simp] theorem sp70 : (("if" : Str) == ("times" : Str)) = false := rfl
@[simp] theorem sq70 : (("if" : Str) = ("times" : Str)) = False := eq_false (by decide)
@[simp] theorem sp71 : (("if" : Str) == ("over" : Str)) = false := rfl
@[simp] theorem sq71 : (("if" : Str) = ("over" : Str)) = False := eq_false (by decide)
theorem is_number_ (x a b : Int) : F_is_number [.d (.int x), .d (.int a), .d (.int b)] [] = .ok (.d (.bool (decide (a ≤ x) && decide (x ≤ b)))) [] := by
  simp [F_is_number, B_is_number]
  by_cases h : a ≤ x <;> simp [h]
theorem is_number_s (x : Str) (a b : Int) : F_is_number [.d (.str x), .d (.int a), .d (.int b)] [] = .ok (.d (.bool false)) [] := by
  simp [F_is_number, B_is_number]
theorem is_number_t (x : List D) (a b : Int) : F_is_number [.d (.tuple x), .d (.int a), .d (.int b)] [] = .ok (.d (.bool false)) [] := by
  simp [F_is_number, B_is_number]
theorem is_money_ (x : Int) : F_is_money [.d (.int x)] [] = .ok (.d (.bool (decide (0 ≤ x) && decide (x ≤ 1000000000000)))) [] := by
  simp [F_is_money, B_is_money, is_number_]
theorem is_money_t (x : List D) : F_is_money [.d (.tuple x)] [] = .ok (.d (.bool false)) [] := by
  simp [F_is_money, B_is_money, is_number_t]
inductive Op | plus | minus | min | max
def Op.nm : Op → Str | plus => "plus" | minus => "minus" | min => "min" | max => "max"
def Op.ap : Op → Int → Int → Int | plus, x, y => x + y | minus, x, y => x - y | min, x, y => if y < x then y else x | max, x, y => if y > x then y else x
inductive Py
  | loss | sum | num (k : Int) | times (k : Int) (p : Py) | over (p : Py) (a b : Int) | iff (a b : Int) (p q : Py) | bin (o : Op) (p q : Py)
def enc : Py → D
  | .loss => .str "loss"
  | .sum => .str "sum"
  | .num k => .int k
  | .times k p => .tuple [.str "times", .int k, enc p]
  | .over p a b => .tuple [.str "over", enc p, .int a, .int b]
  | .iff a b p q => .tuple [.str "if", .int a, .int b, enc p, enc q]
  | .bin o p q => .tuple [.str o.nm, enc p, enc q]
def Good : Py → Prop
  | .loss => True
  | .sum => True
  | .num k => 0 ≤ k ∧ k ≤ 1000000000000
  | .times k p => 0 ≤ k ∧ k ≤ 1000 ∧ Good p
  | .over p a b => 0 ≤ a ∧ a ≤ 1000000000000 ∧ 0 ≤ b ∧ b ≤ 1000000000000 ∧ Good p
  | .iff a b p q => 0 ≤ a ∧ a ≤ b ∧ b ≤ 1000000000000 ∧ Good p ∧ Good q
  | .bin _ p q => Good p ∧ Good q
def kids : Py → List Py
  | .times _ p => [p]
  | .over p _ _ => [p]
  | .iff _ _ p q => [p, q]
  | .bin _ p q => [p, q]
  | _ => []
def sz : Py → Nat
  | .times _ p => sz p + 1
  | .over p _ _ => sz p + 1
  | .iff _ _ p q => sz p + sz q + 1
  | .bin _ p q => sz p + sz q + 1
  | _ => 1
theorem pays_in_ : ∀ (p : Py), Good p → ∃ r, F_pays_in [.d (enc p)] [] = .ok r [] ∧ (r = .d (.list ((kids p).map enc)) ∨ r = .own (.lst ((kids p).map enc)))
  | .loss, _ => by simp [F_pays_in, B_pays_in, enc, kids]
  | .sum, _ => by simp [F_pays_in, B_pays_in, enc, kids]
  | .num k, h => by simp [Good] at h; simp [F_pays_in, B_pays_in, enc, kids, is_money_, h]
  | .times k p, h => by simp [Good] at h; simp [F_pays_in, B_pays_in, enc, kids, is_money_t, is_money_, is_number_, h]
  | .over p a b, h => by simp [Good] at h; simp [F_pays_in, B_pays_in, enc, kids, is_money_t, is_money_, is_number_, h]
  | .iff a b p q, h => by simp [Good] at h; simp [F_pays_in, B_pays_in, enc, kids, is_money_t, is_money_, is_number_, h, (by omega : 0 ≤ b), (by omega : a ≤ 1000000000000)]
  | .bin o p q, h => by simp [Good] at h; cases o <;> simp [F_pays_in, B_pays_in, enc, kids, is_money_t, is_money_, is_number_, h, Op.nm]
def tot (l : List Py) : Nat := (l.map sz).sum
theorem tot_cons (p : Py) (l : List Py) : tot (p :: l) = sz p + tot l := by simp [tot]
theorem tot_app (p l : List Py) : tot (p ++ l) = tot p + tot l := by simp [tot]
theorem tot_rev (l : List Py) : tot l.reverse = tot l := by simp [tot]
theorem sz_kids (p : Py) : sz p = tot (kids p) + 1 := by cases p <;> simp [sz, kids, tot]
theorem good_kids {p : Py} (h : Good p) : ∀ q ∈ kids p, Good q := by cases p <;> simp_all [Good, kids]
theorem len_tot (l : List Py) : l.length ≤ tot l := by
  induction l with
  | nil => simp
  | cons p l ih => rw [tot_cons, sz_kids, List.length_cons]; omega
theorem few_loop (K : PySem.W.Frag) (a : S) : ∀ (n : Nat) (st : List Py) (k : Nat) (s : S), tot st < n → k + tot st ≤ 60 → (∀ q ∈ st, Good q) → ∃ s', gWhile (tAndM (tT (eV 2)) (op2 leD (eV 3) (eC (.int (60))))) (gSeq (sSet 4 (eFrz (eCallL 1 (He.ga K "pays_in") F_pays_in (aCons (eMt0 popG (eV 2)) aNil))))
      (gSeq (sIf (op1 isnD (eV 4)) (sRet (eRv (eC (.bool false)))) gNil)
      (gSeq (sSet 3 (eBin addD (eV 3) (eC (.int (1)))))
      (sExp (eMt extG (eV 2) (aCons (eV 4) aNil)))))) n [a, .fn (He.ga K "pays_in"), .cel 0, .d (.int k), s] [.lst (st.reverse.map enc)] = .nx [a, .fn (He.ga K "pays_in"), .cel 0, .d (.int ((k + tot st : Nat) : Int)), s'] [.lst []] := by
  intro n
  induction n with
  | zero => intro st k s h; omega
  | succ n ih =>
    intro st k s h1 h2 h3
    cases st with
    | nil => rw [gWhile_succ]; simp [tot]
    | cons q st =>
      obtain ⟨r, e1, e2⟩ := pays_in_ q (h3 q (by simp))
      have e0 := sz_kids q
      rw [tot_cons] at h1 h2
      have l1 := len_tot st
      have l2 := len_tot (kids q)
      obtain ⟨s', i1⟩ := ih ((kids q).reverse ++ st) (k + 1) (.d (.list ((kids q).map enc))) (by rw [tot_app, tot_rev]; omega) (by rw [tot_app, tot_rev]; omega) (by
        intro x hx
        rcases List.mem_append.1 hx with hx | hx
        · exact good_kids (h3 q (by simp)) x (List.mem_reverse.1 hx)
        · exact h3 x (by simp [hx]))
      have i2 : ((kids q).reverse ++ st).reverse.map enc = st.reverse.map enc ++ (kids q).map enc := by simp
      rw [i2] at i1
      have i3 : ((k + 1 + tot ((kids q).reverse ++ st) : Nat) : Int) = ((k + tot (q :: st) : Nat) : Int) := by rw [tot_app, tot_rev, tot_cons]; omega
      rw [i3] at i1
      have i4 : (k : Int) ≤ 60 := by omega
      have i5 : st.length ≤ sizeLine := size_ok (by omega)
      have i6 : st.length + 1 ≤ sizeLine := size_ok (by omega)
      have i7 : st.length + (kids q).length ≤ sizeLine := size_ok (by omega)
      have i8 : ((k + 1 : Nat) : Int) = (k : Int) + 1 := by omega
      rw [i8] at i1
      refine ⟨s', ?_⟩
      rw [gWhile_succ]
      rcases e2 with e2 | e2 <;> subst e2 <;> simp at i1 <;> simp [i4, i5, i6, i7, e1, i1]
theorem few_ (K : PySem.W.Frag) (p : Py) (h : Good p) (h2 : sz p ≤ 60) : F_are_few__pays_in K [.d (enc p), .fn (He.ga K "pays_in")] [] = .ok (.d (.bool true)) [] := by
  obtain ⟨s', e⟩ := few_loop K (.d (enc p)) 100 [p] 0 .no (by simp [tot]; omega) (by simp [tot]; omega) (by simp [h])
  have e2 : tot [p] = sz p := by simp [tot]
  rw [e2] at e
  simp at e
  simp [F_are_few__pays_in, B_are_few__pays_in, sWhile, e]
  omega
theorem is_pay_ (K : PySem.W.Frag) (p : Py) (h : Good p) (h2 : sz p ≤ 60) : F_is_pay K [.d (enc p)] [] = .ok (.d (.bool true)) [] := by
  simp [F_is_pay, B_is_pay, few_ K p h h2]
/-- what it pays -/
def val (t s : Int) : Py → Int
  | .loss => s
  | .sum => t
  | .num k => k
  | .times k p => k * val t s p
  | .over p a b => let x := val t s p - b; let y := if 0 > x then 0 else x; if a < y then a else y
  | .iff a b p q => if a ≤ s ∧ s ≤ b then val t s p else val t s q
  | .bin o p q => o.ap (val t s p) (val t s q)
def dep : Py → Nat
  | .times _ p => dep p + 1
  | .over p _ _ => dep p + 1
  | .iff _ _ p q => max (dep p) (dep q) + 1
  | .bin _ p q => max (dep p) (dep q) + 1
  | _ => 0
theorem val_le {t s : Int} (ht : t.natAbs ≤ 1000000000000) (hs : s.natAbs ≤ 1000000000000) : ∀ (p : Py), Good p → (val t s p).natAbs ≤ 1000000000000 * 1000 ^ dep p
  | .loss, h => by simp [val, dep]; exact hs
  | .sum, h => by simp [val, dep]; exact ht
  | .num k, h => by simp [Good] at h; simp [val, dep]; omega
  | .times k p, h => by
    simp [Good] at h
    have e := val_le ht hs p h.2.2
    simp only [val, dep, Int.natAbs_mul, Nat.pow_succ]
    have e2 : k.natAbs ≤ 1000 := by omega
    have e3 := Nat.mul_le_mul e2 e
    generalize 1000 ^ dep p = z at e e3 ⊢
    omega
  | .over p a b, h => by
    simp [Good] at h
    have e : 0 < 1000 ^ dep p := Nat.pow_pos (by decide)
    simp only [val, dep, Nat.pow_succ]
    generalize 1000 ^ dep p = z at e ⊢
    generalize val t s p = y
    repeat' split
    all_goals omega
  | .iff a b p q, h => by
    simp [Good] at h
    have e := val_le ht hs p h.2.2.2.1
    have e' := val_le ht hs q h.2.2.2.2
    simp only [val, dep, Nat.pow_succ]
    have g1 : 1000 ^ dep p ≤ 1000 ^ max (dep p) (dep q) := Nat.pow_le_pow_right (by decide) (Nat.le_max_left _ _)
    have g2 : 1000 ^ dep q ≤ 1000 ^ max (dep p) (dep q) := Nat.pow_le_pow_right (by decide) (Nat.le_max_right _ _)
    generalize 1000 ^ dep p = z1 at *
    generalize 1000 ^ dep q = z2 at *
    generalize 1000 ^ max (dep p) (dep q) = z at *
    split <;> omega
  | .bin o p q, h => by
    simp [Good] at h
    have e := val_le ht hs p h.1
    have e' := val_le ht hs q h.2
    simp only [val, dep, Nat.pow_succ]
    have g1 : 1000 ^ dep p ≤ 1000 ^ max (dep p) (dep q) := Nat.pow_le_pow_right (by decide) (Nat.le_max_left _ _)
    have g2 : 1000 ^ dep q ≤ 1000 ^ max (dep p) (dep q) := Nat.pow_le_pow_right (by decide) (Nat.le_max_right _ _)
    generalize 1000 ^ dep p = z1 at *
    generalize 1000 ^ dep q = z2 at *
    generalize 1000 ^ max (dep p) (dep q) = z at *
    generalize val t s p = x at *
    generalize val t s q = y at *
    cases o <;> simp only [Op.ap] <;> (try split) <;> omega
theorem val_log {t s : Int} (ht : t.natAbs ≤ 1000000000000) (hs : s.natAbs ≤ 1000000000000) {p : Py} (h : Good p) (hd : dep p ≤ 8) : (val t s p).natAbs.log2 < 200 := by
  refine log2_lt (by omega) (Nat.lt_of_le_of_lt (val_le ht hs p h) ?_)
  have : (1000 : Nat) ^ dep p ≤ 1000 ^ 8 := Nat.pow_le_pow_right (by omega) hd
  exact Nat.lt_of_le_of_lt (Nat.mul_le_mul_left _ this) (by decide)
theorem paid_by_ {t s : Int} (ht : t.natAbs ≤ 1000000000000) (hs : s.natAbs ≤ 1000000000000) : ∀ (p : Py) (n : Nat), Good p → dep p < n → n ≤ 8 → F_paid_by n [.d (enc p), .d (.int t), .d (.int s)] [] = .ok (.d (.int (val t s p))) []
  | p, 0, _, h, _ => by omega
  | .loss, n + 1, h, hd, h8 => by simp [F_paid_by, B_paid_by, enc, val]
  | .sum, n + 1, h, hd, h8 => by simp [F_paid_by, B_paid_by, enc, val]
  | .num k, n + 1, h, hd, h8 => by simp [F_paid_by, B_paid_by, enc, val]
  | .times k p, n + 1, h, hd, h8 => by
    simp [Good] at h
    simp [dep] at hd
    have e := paid_by_ ht hs p n h.2.2 hd (by omega)
    have e1 := val_log ht hs h.2.2 (by omega)
    have e2 : k.natAbs.log2 < 20 := log2_lt (by omega) (by omega)
    have e3 : k.natAbs.log2 + (val t s p).natAbs.log2 < 1000000 := by omega
    simp [F_paid_by, B_paid_by, enc, val, e, e3]
  | .over p a b, n + 1, h, hd, h8 => by
    simp [Good] at h
    simp [dep] at hd
    have e := paid_by_ ht hs p n h.2.2.2.2 hd (by omega)
    simp [F_paid_by, B_paid_by, enc, val, e]
  | .iff a b p q, n + 1, h, hd, h8 => by
    simp [Good] at h
    simp [dep] at hd
    have e := paid_by_ ht hs p n h.2.2.2.1 (by omega) (by omega)
    have e' := paid_by_ ht hs q n h.2.2.2.2 (by omega) (by omega)
    by_cases c1 : a ≤ s <;> by_cases c2 : s ≤ b <;> simp [F_paid_by, B_paid_by, enc, val, e, e', c1, c2]
  | .bin o p q, n + 1, h, hd, h8 => by
    simp [Good] at h
    simp [dep] at hd
    have e := paid_by_ ht hs p n h.1 (by omega) (by omega)
    have e' := paid_by_ ht hs q n h.2 (by omega) (by omega)
    cases o <;> simp [F_paid_by, B_paid_by, enc, val, e, e', Op.nm, Op.ap]
theorem strOk_nm (o : Op) : PyData.strOk o.nm = true := by cases o <;> exact strOk_lit _
theorem lay_enc : ∀ p : Py, (enc p).canLay0 = true
  | .loss => by simp [enc, PyData.canLay0]
  | .sum => by simp [enc, PyData.canLay0]
  | .num k => by simp [enc, PyData.canLay0]
  | .times k p => by simp [enc, PyData.canLay0, PyData.canLayAll0, lay_enc p]
  | .over p a b => by simp [enc, PyData.canLay0, PyData.canLayAll0, lay_enc p]
  | .iff a b p q => by simp [enc, PyData.canLay0, PyData.canLayAll0, lay_enc p, lay_enc q]
  | .bin o p q => by simp [enc, PyData.canLay0, strOk_nm, PyData.canLayAll0, lay_enc p, lay_enc q]
theorem dep_enc : ∀ p : Py, (enc p).depth ≤ dep p
  | .loss => by simp [enc, PyData.depth]
  | .sum => by simp [enc, PyData.depth]
  | .num k => by simp [enc, PyData.depth]
  | .times k p => by have := dep_enc p; simp [enc, PyData.depth, PyData.depthAll, dep]; omega
  | .over p a b => by have := dep_enc p; simp [enc, PyData.depth, PyData.depthAll, dep]; omega
  | .iff a b p q => by have := dep_enc p; have := dep_enc q; simp [enc, PyData.depth, PyData.depthAll, dep]; omega
  | .bin o p q => by have := dep_enc p; have := dep_enc q; simp [enc, PyData.depth, PyData.depthAll, dep]; omega
theorem shaped_enc {p : Py} (h : dep p ≤ 64) : SeqAt.shaped (enc p) = true := by
  have := dep_enc p
  simp [SeqAt.shaped, lay_enc]; omega
theorem law_pay_ {t s : Int} (ht : t.natAbs ≤ 1000000000000) (hs : s.natAbs ≤ 1000000000000) : ∀ (p : Py) (n : Nat), Good p → dep p < n → n ≤ 8 → F__law_pay n [.d (enc p), .d (.int t), .d (.int s)] [] = .ok (.d (.int (val t s p))) []
  | p, 0, _, h, _ => by omega
  | .loss, n + 1, h, hd, h8 => by simp [F__law_pay, B__law_pay, enc, val]
  | .sum, n + 1, h, hd, h8 => by simp [F__law_pay, B__law_pay, enc, val]
  | .num k, n + 1, h, hd, h8 => by simp [F__law_pay, B__law_pay, enc, val]
  | .times k p, n + 1, h, hd, h8 => by
    have sh := shaped_enc (p := .times k p) (by omega)
    simp only [enc] at sh
    simp [Good] at h
    simp [dep] at hd
    have e := law_pay_ ht hs p n h.2.2 hd (by omega)
    have e1 := val_log ht hs h.2.2 (by omega)
    have e2 : k.natAbs.log2 < 20 := log2_lt (by omega) (by omega)
    have e3 : k.natAbs.log2 + (val t s p).natAbs.log2 < 1000000 := by omega
    simp [F__law_pay, B__law_pay, enc, val, e, e3, sh]
  | .over p a b, n + 1, h, hd, h8 => by
    have sh := shaped_enc (p := .over p a b) (by omega)
    simp only [enc] at sh
    simp [Good] at h
    simp [dep] at hd
    have e := law_pay_ ht hs p n h.2.2.2.2 hd (by omega)
    simp [F__law_pay, B__law_pay, enc, val, e, sh]
  | .iff a b p q, n + 1, h, hd, h8 => by
    have sh := shaped_enc (p := .iff a b p q) (by omega)
    simp only [enc] at sh
    simp [Good] at h
    simp [dep] at hd
    have e := law_pay_ ht hs p n h.2.2.2.1 (by omega) (by omega)
    have e' := law_pay_ ht hs q n h.2.2.2.2 (by omega) (by omega)
    by_cases c1 : a ≤ s <;> by_cases c2 : s ≤ b <;> simp [F__law_pay, B__law_pay, enc, val, e, e', c1, c2, sh]
  | .bin o p q, n + 1, h, hd, h8 => by
    have sh := shaped_enc (p := .bin o p q) (by omega)
    simp only [enc] at sh
    simp [Good] at h
    simp [dep] at hd
    have e := law_pay_ ht hs p n h.1 (by omega) (by omega)
    have e' := law_pay_ ht hs q n h.2 (by omega) (by omega)
    cases o <;> simp only [Op.nm] at sh <;> simp [F__law_pay, B__law_pay, enc, val, e, e', Op.nm, Op.ap, sh]
theorem pay_ (K : PySem.W.Frag) {t s : Int} (ht : 0 ≤ t ∧ t ≤ 1000000000000) (hs : 0 ≤ s ∧ s ≤ 1000000000000) (p : Py) (h : Good p) (h2 : sz p ≤ 60) (h3 : dep p < 8) : F_pay K [.d (enc p), .d (.int t), .d (.int s)] [] = .ok (.d (.int (val t s p))) [] := by
  have e := paid_by_ (t := t) (s := s) (by omega) (by omega) p 8 h h3 (by omega)
  simp [F_pay, B_pay, is_pay_ K p h h2, is_money_, ht, hs, e]
theorem equal_int (n : Nat) (x : Int) : F__law_equal (n + 1) [.d (.int x), .d (.int x)] [] = .ok (.d (.bool true)) [] := by
  simp [F__law_equal, B__law_equal]
theorem atI_mod {xs : List D} {P : D → Prop} (v : Int) (n : Int) (hn : n = (xs.length : Int)) (h0 : 0 < xs.length) (h : ∀ x ∈ xs, P x) : ∃ x, P x ∧ atI xs (v % n) = some x := by
  subst hn
  have a1 : 0 ≤ v % (xs.length : Int) := Int.emod_nonneg _ (by omega)
  have a2 : v % (xs.length : Int) < xs.length := Int.emod_lt_of_pos _ (by omega)
  have a3 : (v % (xs.length : Int)).toNat < xs.length := by omega
  refine ⟨xs[(v % (xs.length : Int)).toNat], h _ (List.getElem_mem a3), ?_⟩
  exact atI_of (n := (v % (xs.length : Int)).toNat) (by omega) (by simp [a3])
@[simp] theorem DS_len (nums : List Int) (k : Nat) : (DS nums k).length = 1 := rfl
@[simp] theorem DS_take (nums : List Int) (k : Nat) : (DS nums k).take 1 = DS nums k := rfl
theorem callC_DS {F : List S → M Rv} {r : List S} {nums : List Int} {k k' : Nat} {x : D} (hr : noCel r = true) (e : F (.cel 0 :: r) (DS nums k) = .ok (.d x) (DS nums k')) : callC F (.cel 0 :: r) (DS nums k) = .ok (.d x) (DS nums k') := by
  simp only [DS] at e ⊢
  simp [hr, e]
theorem drc {nums : List Int} {k : Nat} (h : InR nums) (hk : k < 1000000000000) (k' : Nat) (e : k' = k + 1) : callC F__law_draw [.cel 0] (DS nums k) = .ok (.d (.int (dr nums k))) (DS nums k') := by
  subst e; exact callC_DS rfl (draw_ h hk)
theorem any_pay_ {nums : List Int} (h : InR nums) : ∀ (d n k : Nat), d < n → d ≤ 7 → k + 4 * 2 ^ (d + 1) < 1000000000000 → ∃ p k', F__law_any_pay n [.cel 0, .d (.int d)] (DS nums k) = .ok (.d (enc p)) (DS nums k') ∧ Good p ∧ dep p ≤ d ∧ sz p < 2 ^ (d + 1) ∧ k ≤ k' ∧ k' + 4 ≤ k + 4 * 2 ^ (d + 1)
  | d, 0, _, h, _, _ => by omega
  | d, n + 1, k, h1, h2, h3 => by
    have p2 : 2 ^ (d + 1) = 2 * 2 ^ d := by rw [Nat.pow_succ]; omega
    have p3 : 0 < 2 ^ d := Nat.pow_pos (by decide)
    have l1 := dr_lo (k := k) h
    have l2 := dr_hi (k := k) h
    obtain ⟨_, ⟨a, rfl, a1, a2⟩, ha⟩ := atI_mod (xs := [.int 0, .int 1, .int 2, .int 5, .int 10, .int 50, .int 1000, .int 1000000, .int 1000000000000]) (P := fun x => ∃ i, x = .int i ∧ 0 ≤ i ∧ i ≤ 1000000000000) (dr nums (k + 1)) 9 rfl (by decide) (by simp)
    have d0 := drc (k := k) h (by omega) (k + 1) rfl
    have d1 := drc (k := k + 1) h (by omega) (k + 2) rfl
    have d2 := drc (k := k + 2) h (by omega) (k + 3) rfl
    by_cases c1 : dr nums k % 12 < 3 ∨ d = 0
    · obtain ⟨_, ⟨p, rfl, q1, q2, q3⟩, hp⟩ := atI_mod (xs := [.str "loss", .str "loss", .str "sum", .int a, .int a]) (P := fun x => ∃ p, x = enc p ∧ Good p ∧ dep p = 0 ∧ sz p = 1) (dr nums (k + 2)) 5 rfl (by simp) (by
        have hl : ∃ p, PyData.str "loss" = enc p ∧ Good p ∧ dep p = 0 ∧ sz p = 1 := ⟨.loss, rfl, trivial, rfl, rfl⟩
        have hs : ∃ p, PyData.str "sum" = enc p ∧ Good p ∧ dep p = 0 ∧ sz p = 1 := ⟨.sum, rfl, trivial, rfl, rfl⟩
        have hn : ∃ p, PyData.int a = enc p ∧ Good p ∧ dep p = 0 ∧ sz p = 1 := ⟨.num a, rfl, ⟨a1, a2⟩, rfl, rfl⟩
        intro x hx
        simp at hx
        rcases hx with rfl | rfl | rfl
        · exact hl
        · exact hs
        · exact hn)
      refine ⟨p, k + 3, ?_, q1, by omega, by omega, by omega, by omega⟩
      by_cases c2 : dr nums k % 12 < 3
      · simp [F__law_any_pay, B__law_any_pay, d0, d1, d2, ha, hp, c2, -callC_]
      · have c3 : d = 0 := by omega
        subst c3
        simp [F__law_any_pay, B__law_any_pay, d0, d1, d2, ha, hp, c2, -callC_]
    · obtain ⟨d, rfl⟩ : ∃ e, d = e + 1 := ⟨d - 1, by omega⟩
      have c2 : ¬ dr nums k % 12 < 3 := by omega
      have c4 : ¬ ((d + 1 : Nat) : Int) = 0 := by omega
      have c5 : ((d + 1 : Nat) : Int) - 1 = d := by omega
      have c9 : ¬ (d : Int) + 1 = 0 := by omega
      have p4 : 2 ^ (d + 1) = 2 * 2 ^ d := by rw [Nat.pow_succ]; omega
      have p5 : 0 < 2 ^ d := Nat.pow_pos (by decide)
      obtain ⟨p, k1, e1, g1, g2, g3, g4, g5⟩ := any_pay_ h d n (k + 2) (by omega) (by omega) (by omega)
      have e1' := callC_DS rfl e1
      have d3 := drc (k := k1) h (by omega) (k1 + 1) rfl
      by_cases c6 : dr nums k % 12 = 3
      · obtain ⟨_, ⟨t, rfl, t1, t2⟩, ht⟩ := atI_mod (xs := [.int 0, .int 1, .int 2, .int 3, .int 1000]) (P := fun x => ∃ i, x = .int i ∧ 0 ≤ i ∧ i ≤ 1000) (dr nums k1) 5 rfl (by decide) (by simp)
        refine ⟨.times t p, k1 + 1, ?_, ⟨t1, t2, g1⟩, by simp [dep]; omega, by simp [sz]; omega, by omega, by omega⟩
        simp [F__law_any_pay, B__law_any_pay, d0, d1, e1', d3, ha, ht, c2, c4, c9, c5, c6, -callC_, enc]
      · by_cases c7 : dr nums k % 12 = 4
        · obtain ⟨_, ⟨t, rfl, t1, t2⟩, ht⟩ := atI_mod (xs := [.int 0, .int 1, .int 5, .int 100]) (P := fun x => ∃ i, x = .int i ∧ 0 ≤ i ∧ i ≤ 1000) (dr nums k1) 4 rfl (by decide) (by simp)
          refine ⟨.over p a t, k1 + 1, ?_, ⟨a1, a2, t1, by omega, g1⟩, by simp [dep]; omega, by simp [sz]; omega, by omega, by omega⟩
          simp [F__law_any_pay, B__law_any_pay, d0, d1, e1', d3, ha, ht, c2, c4, c9, c5, c6, c7, -callC_, enc]
        · obtain ⟨q, k2, e2, i1, i2, i3, i4, i5⟩ := any_pay_ h d n k1 (by omega) (by omega) (by omega)
          have e2' := callC_DS rfl e2
          have d4 := drc (k := k2) h (by omega) (k2 + 1) rfl
          have d5 := drc (k := k2 + 1) h (by omega) (k2 + 2) rfl
          by_cases c8 : dr nums k % 12 = 5
          · obtain ⟨_, ⟨t, rfl, t1, t2⟩, ht⟩ := atI_mod (xs := [.int 0, .int 1, .int 5, .int 10, .int 100]) (P := fun x => ∃ i, x = .int i ∧ 0 ≤ i ∧ i ≤ 1000) (dr nums k2) 5 rfl (by decide) (by simp)
            obtain ⟨_, ⟨u, rfl, u1, u2⟩, hu⟩ := atI_mod (xs := [.int 0, .int 1, .int 5, .int 1000000]) (P := fun x => ∃ i, x = .int i ∧ 0 ≤ i ∧ i ≤ 1000000) (dr nums (k2 + 1)) 4 rfl (by decide) (by simp)
            refine ⟨.iff t (t + u) p q, k2 + 2, ?_, ⟨t1, by omega, by omega, g1, i1⟩, by simp [dep]; omega, by simp [sz]; omega, by omega, by omega⟩
            simp [F__law_any_pay, B__law_any_pay, d0, d1, e1', e2', d4, d5, ha, ht, hu, c2, c4, c9, c5, c6, c7, c8, -callC_, enc]
          · obtain ⟨_, ⟨o, rfl⟩, ho⟩ := atI_mod (xs := [.str "plus", .str "minus", .str "min", .str "max"]) (P := fun x => ∃ o : Op, x = .str o.nm) (dr nums k) 4 rfl (by decide) (by
              intro x hx
              simp at hx
              rcases hx with rfl | rfl | rfl | rfl
              · exact ⟨.plus, rfl⟩
              · exact ⟨.minus, rfl⟩
              · exact ⟨.min, rfl⟩
              · exact ⟨.max, rfl⟩)
            refine ⟨.bin o p q, k2, ?_, ⟨g1, i1⟩, by simp [dep]; omega, by simp [sz]; omega, by omega, by omega⟩
            simp [F__law_any_pay, B__law_any_pay, d0, d1, e1', e2', ha, ho, c2, c4, c9, c5, c6, c7, c8, -callC_, enc]

/-- the sizes of the law -/
theorem size_loop (K : PySem.W.Frag) {p : Py} {t : Int} (ht : 0 ≤ t ∧ t ≤ 1000000000000) (h : Good p) (h2 : sz p ≤ 60) (h3 : dep p < 8) (a b : S) (cs : Store) : ∀ (xs : List Int) (s : S), (∀ x ∈ xs, 0 ≤ x ∧ x ≤ 1000000000000) → ∃ s', gFor (gtN 5) (sIf (tNotM (tT (eFrz (eCall (F__law_equal 3) (aCons (eFrz (eCall (F_pay K) (aCons (eV 3) (aCons (eV 4) (aCons (eV 5) aNil))))) (aCons (eFrz (eCall (F__law_pay 8) (aCons (eV 3) (aCons (eV 4) (aCons (eV 5) aNil))))) aNil)))))) (sRet (eRv (eC (.bool false)))) gNil) (xs.map .int) [a, .cel 0, b, .d (enc p), .d (.int t), s] cs = .nx [a, .cel 0, b, .d (enc p), .d (.int t), s'] cs
  | [], s, _ => ⟨s, by simp⟩
  | x :: xs, s, hx => by
    obtain ⟨s', e⟩ := size_loop K ht h h2 h3 a b cs xs (.d (.int x)) (fun y hy => hx y (by simp [hy]))
    have hx0 := hx x (by simp)
    have e1 := pay_ K ht hx0 p h h2 h3
    have e2 := law_pay_ (t := t) (s := x) (by omega) (by omega) p 8 h h3 (by omega)
    have e3 := equal_int 2 (val t x p)
    refine ⟨s', ?_⟩
    rw [List.map_cons, gFor_cons]
    simp [e, e1, e2, e3]
theorem turn_loop (K : PySem.W.Frag) {nums : List Int} (h : InR nums) (a : S) : ∀ (js : List Int) (k : Nat) (x3 x4 x5 x6 : S), (∀ j ∈ js, 0 ≤ j ∧ j ≤ 100) → k + 1000 * js.length < 1000000000 → ∃ ρ' cs', gFor (gtN 2) (gSeq (sSet 3 (eFrz (eCallC (F__law_any_pay 8) (aCons (eV 1) (aCons (eBin addD (eBin modD (eV 2) (eC (.int (4)))) (eC (.int (1)))) aNil)))))
      (gSeq (sSet 4 (eBin ixD (eFrz (eLst (aCons (eC (.int (0))) (aCons (eC (.int (1))) (aCons (eC (.int (7))) (aCons (eC (.int (100))) (aCons (eBin powD (eC (.int (10))) (eC (.int (9)))) (aCons (eBin powD (eC (.int (10))) (eC (.int (12)))) aNil)))))))) (eBin modD (eFrz (eCallC F__law_draw (aCons (eV 1) aNil))) (eC (.int (6))))))
      (sFor (gtN 5) (iSeq (eFrz (eLst (aCons (eC (.int (0))) (aCons (eC (.int (1))) (aCons (eC (.int (2))) (aCons (eC (.int (5))) (aCons (eC (.int (6))) (aCons (eC (.int (10))) (aCons (eC (.int (11))) (aCons (eC (.int (99))) (aCons (eC (.int (100))) (aCons (eC (.int (101))) (aCons (eFrz (eCallC F__law_draw (aCons (eV 1) aNil))) (aCons (eBin powD (eC (.int (10))) (eC (.int (12)))) (aCons (eBin subD (eBin subD (eBin powD (eC (.int (10))) (eC (.int (12)))) (eC (.int (1)))) (eFrz (eCallC F__law_draw (aCons (eV 1) aNil)))) aNil)))))))))))))))) (sIf (tNotM (tT (eFrz (eCall (F__law_equal 3) (aCons (eFrz (eCall (F_pay K) (aCons (eV 3) (aCons (eV 4) (aCons (eV 5) aNil))))) (aCons (eFrz (eCall (F__law_pay 8) (aCons (eV 3) (aCons (eV 4) (aCons (eV 5) aNil))))) aNil)))))) (sRet (eRv (eC (.bool false)))) gNil)))) (js.map .int) [a, .cel 0, x3, x4, x5, x6] (DS nums k) = .nx ρ' cs'
  | [], k, x3, x4, x5, x6, _, _ => ⟨_, _, rfl⟩
  | j :: js, k, x3, x4, x5, x6, hj, hk => by
    simp at hk
    have j1 : 0 ≤ j % 4 := by omega
    have j2 : j % 4 < 4 := by omega
    have j3 : (((j % 4).toNat + 1 : Nat) : Int) = j % 4 + 1 := by omega
    have p1 : 2 ^ ((j % 4).toNat + 1 + 1) ≤ 2 ^ 5 := Nat.pow_le_pow_right (by decide) (by omega)
    obtain ⟨p, k1, e1, g1, g2, g3, g4, g5⟩ := any_pay_ h ((j % 4).toNat + 1) 8 k (by omega) (by omega) (by omega)
    rw [j3] at e1
    have e1' := callC_DS rfl e1
    have d1 := drc (k := k1) h (by omega) (k1 + 1) rfl
    have d2 := drc (k := k1 + 1) h (by omega) (k1 + 2) rfl
    have d3 := drc (k := k1 + 2) h (by omega) (k1 + 3) rfl
    obtain ⟨_, ⟨t, rfl, t1, t2⟩, ht⟩ := atI_mod (xs := [.int 0, .int 1, .int 7, .int 100, .int 1000000000, .int 1000000000000]) (P := fun x => ∃ i, x = .int i ∧ 0 ≤ i ∧ i ≤ 1000000000000) (dr nums k1) 6 rfl (by decide) (by simp)
    have r1 := dr_lo (k := k1 + 1) h
    have r2 := dr_hi (k := k1 + 1) h
    have r3 := dr_lo (k := k1 + 2) h
    have r4 := dr_hi (k := k1 + 2) h
    obtain ⟨s', e2⟩ := size_loop K (p := p) (t := t) ⟨t1, t2⟩ g1 (by omega) (by omega) a (.d (.int j)) (DS nums (k1 + 3)) [0, 1, 2, 5, 6, 10, 11, 99, 100, 101, dr nums (k1 + 1), 1000000000000, 999999999999 - dr nums (k1 + 2)] x6 (by simp; omega)
    obtain ⟨ρ', cs', e3⟩ := turn_loop K h a js (k1 + 3) (.d (.int j)) (.d (enc p)) (.d (.int t)) s' (fun y hy => hj y (by simp [hy])) (by omega)
    refine ⟨ρ', cs', ?_⟩
    rw [List.map_cons, gFor_cons]
    simp at e2
    simp [e1', d1, d2, d3, ht, e2, e3, -callC_]
theorem law_true (K : PySem.W.Frag) (ns : List Int) (h : ns.length ≤ 63) : ∃ cs', F_law K [.d (.list (ns.map .int))] [] = .ok (.d (.bool true)) cs' := by
  obtain ⟨nums, e, h1, h2⟩ := numbers_ ns (by omega)
  obtain ⟨ρ', cs', f⟩ := turn_loop K h1 (.d (.list (ns.map .int))) ((List.range 7).map fun (k : Nat) => 0 + (k : Int)) 0 .no .no .no .no (by intro j hj; simp at hj; omega) (by simp)
  rw [← rngD_map] at f
  rw [show DS nums 0 = [.lst [.list (nums.map .int), .int 0]] from rfl] at f
  simp [F_law, B_law, e, f, -callC_]
end Law

set_option Elab.async false
set_option linter.all false
set_option maxRecDepth 100000
set_option maxHeartbeats 4000000
namespace Law
open PySem L2 Dn
/-! the text by places -/
def top (i : Nat) : Stmt := PySem.Challenge.pw_whatbefell_k08_pays_are_reckoned.main.body.getD i (.Pass ⟨0, 0, 0, 0⟩)
abbrev st_is_number : Stmt := top 5
abbrev st_is_money : Stmt := top 6
abbrev st_are_few : Stmt := top 8
abbrev st_pays_in : Stmt := top 9
abbrev st_is_pay : Stmt := top 10
abbrev st_paid_by : Stmt := top 11
abbrev st_pay : Stmt := top 12
abbrev st__law_mixed : Stmt := top 14
abbrev st__law_numbers : Stmt := top 15
abbrev st__law_draw : Stmt := top 16
abbrev st__law_equal : Stmt := top 17
abbrev st__law_all_equal : Stmt := top 18
abbrev st__law_pay : Stmt := top 19
abbrev st__law_any_pay : Stmt := top 20
abbrev st_law : Stmt := top 21
structure Tx (K : PySem.W.Frag) (mg : PySem.Str → Option Value) : Prop where
  z_bool : mg "bool" = none
  z_int : mg "int" = none
  z_isinstance : mg "isinstance" = none
  z_len : mg "len" = none
  z_list : mg "list" = none
  z_max : mg "max" = none
  z_min : mg "min" = none
  z_range : mg "range" = none
  z_str : mg "str" = none
  z_tuple : mg "tuple" = none
  m_MONEY : ∃ t, mg "MONEY" = some (.int (1000000000000) t)
  x_WhatbefellError : Exf K mg "WhatbefellError"
  x_BadWords : Exf K mg "BadWords"
  d_is_number : Dfn K mg "is_number" st_is_number ["value", "low", "high"]
  d_is_money : Dfn K mg "is_money" st_is_money ["value"]
  d_are_few : Dfn K mg "are_few" st_are_few ["value", "parts_in"]
  d_pays_in : Dfn K mg "pays_in" st_pays_in ["value"]
  d_is_pay : Dfn K mg "is_pay" st_is_pay ["value"]
  d_paid_by : Dfn K mg "paid_by" st_paid_by ["expression", "insured", "size"]
  d_pay : Dfn K mg "pay" st_pay ["expression", "insured", "size"]
  d__law_mixed : Dfn K mg "_law_mixed" st__law_mixed ["number", "k"]
  d__law_numbers : Dfn K mg "_law_numbers" st__law_numbers ["script"]
  d__law_draw : Dfn K mg "_law_draw" st__law_draw ["draws"]
  d__law_equal : Dfn K mg "_law_equal" st__law_equal ["actual", "due"]
  d__law_all_equal : Dfn K mg "_law_all_equal" st__law_all_equal ["actual", "due"]
  d__law_pay : Dfn K mg "_law_pay" st__law_pay ["expression", "insured", "size"]
  d__law_any_pay : Dfn K mg "_law_any_pay" st__law_any_pay ["draws", "depth"]
  d_law : Dfn K mg "law" st_law ["script"]
theorem sc_is_number : FnScope ["value", "low", "high"] ["value", "low", "high"] (defScope st_is_number) := ⟨rfl, rfl, rfl, by decide +kernel, rfl, by decide +kernel, by decide +kernel⟩
theorem sc_is_money : FnScope ["value"] ["value"] (defScope st_is_money) := ⟨rfl, rfl, rfl, by decide +kernel, rfl, by decide +kernel, by decide +kernel⟩
theorem sc_are_few : FnScope ["value", "parts_in", "waiting", "total", "parts"] ["value", "parts_in"] (defScope st_are_few) := ⟨rfl, rfl, rfl, by decide +kernel, rfl, by decide +kernel, by decide +kernel⟩
theorem sc_pays_in : FnScope ["value", "word"] ["value"] (defScope st_pays_in) := ⟨rfl, rfl, rfl, by decide +kernel, rfl, by decide +kernel, by decide +kernel⟩
theorem sc_is_pay : FnScope ["value"] ["value"] (defScope st_is_pay) := ⟨rfl, rfl, rfl, by decide +kernel, rfl, by decide +kernel, by decide +kernel⟩
theorem sc_paid_by : FnScope ["expression", "insured", "size", "word", "one", "two"] ["expression", "insured", "size"] (defScope st_paid_by) := ⟨rfl, rfl, rfl, by decide +kernel, rfl, by decide +kernel, by decide +kernel⟩
theorem sc_pay : FnScope ["expression", "insured", "size"] ["expression", "insured", "size"] (defScope st_pay) := ⟨rfl, rfl, rfl, by decide +kernel, rfl, by decide +kernel, by decide +kernel⟩
theorem sc__law_mixed : FnScope ["number", "k", "step"] ["number", "k"] (defScope st__law_mixed) := ⟨rfl, rfl, rfl, by decide +kernel, rfl, by decide +kernel, by decide +kernel⟩
theorem sc__law_numbers : FnScope ["script", "numbers", "cell", "rest", "k"] ["script"] (defScope st__law_numbers) := ⟨rfl, rfl, rfl, by decide +kernel, rfl, by decide +kernel, by decide +kernel⟩
theorem sc__law_draw : FnScope ["draws", "at", "first"] ["draws"] (defScope st__law_draw) := ⟨rfl, rfl, rfl, by decide +kernel, rfl, by decide +kernel, by decide +kernel⟩
theorem sc__law_equal : FnScope ["actual", "due"] ["actual", "due"] (defScope st__law_equal) := ⟨rfl, rfl, rfl, by decide +kernel, rfl, by decide +kernel, by decide +kernel⟩
theorem sc__law_all_equal : FnScope ["actual", "due", "k"] ["actual", "due"] (defScope st__law_all_equal) := ⟨rfl, rfl, rfl, by decide +kernel, rfl, by decide +kernel, by decide +kernel⟩
theorem sc__law_pay : FnScope ["expression", "insured", "size", "word", "one", "two"] ["expression", "insured", "size"] (defScope st__law_pay) := ⟨rfl, rfl, rfl, by decide +kernel, rfl, by decide +kernel, by decide +kernel⟩
theorem sc__law_any_pay : FnScope ["draws", "depth", "pick", "amount", "one", "two", "low"] ["draws", "depth"] (defScope st__law_any_pay) := ⟨rfl, rfl, rfl, by decide +kernel, rfl, by decide +kernel, by decide +kernel⟩
theorem sc_law : FnScope ["script", "draws", "turn", "expression", "insured", "size"] ["script"] (defScope st_law) := ⟨rfl, rfl, rfl, by decide +kernel, rfl, by decide +kernel, by decide +kernel⟩
section
variable {P : Program} {w : World} {K : PySem.W.Frag} {mg : PySem.Str → Option Value} {base : Heap}
theorem ok_is_number (T : Tx K mg) : Okf P w K mg base 1 "is_number" ["value", "low", "high"] F_is_number :=
  T.d_is_number.ok sc_is_number 0 rfl fun cdv A outer s H E hr tk po =>
    (dss_one (dst_ret ((de_and (de_isa (de_name 0) T.z_isinstance T.z_int (.inl rfl) bt_int) (de_and (de_not (de_isa (de_name 0) T.z_isinstance T.z_bool (.inr (.inl rfl)) bt_bool)) (de_one (de_chn le_ok le_ok (de_name 1) (de_name 0) (de_name 2)))))).rv))
theorem ok_is_money (T : Tx K mg) : Okf P w K mg base 2 "is_money" ["value"] F_is_money :=
  T.d_is_money.ok sc_is_money 0 rfl fun cdv A outer s H E hr tk po =>
    (dss_one (dst_ret (do_f (ok_is_number T) (hr.mono (by decide)) tk (da_cons (de_name 0) (da_cons de_int (da_cons (de_gI T.m_MONEY) da_nil))) (alenS (alenS (alenS alen0))))))
theorem ok_pays_in (T : Tx K mg) : Okf P w K mg base 3 "pays_in" ["value"] F_pays_in :=
  T.d_pays_in.ok sc_pays_in 1 rfl fun cdv A outer s H E hr tk po =>
    (dss_cons (dst_if (dt_tru (de_isa (de_name 0) T.z_isinstance T.z_str (.inr (.inr (.inl rfl))) bt_str)) (dss_one (dst_ret ((de_if (dw_or (dt_cmp (eq_ok hr.units) (de_name 0) de_str) (dw_or1 (dt_cmp (eq_ok hr.units) (de_name 0) de_str))).dt ((do_lst da_nil)).frz de_non)).rv)) dss_nil)
    (dss_cons (dst_if (dt_tru ((do_f (ok_is_money T) (hr.mono (by decide)) tk (da_cons (de_name 0) da_nil) (alenS alen0))).frz) (dss_one (dst_ret (do_lst da_nil))) dss_nil)
    (dss_cons (dst_if (dw_or (dt_not (dt_tru (de_isa (de_name 0) T.z_isinstance T.z_tuple (.inr (.inr (.inr (.inr (.inl rfl))))) bt_tuple))) (dw_or (dt_cmp lt_ok (de_callB len_ok T.z_len bt_len (da_cons (de_name 0) da_nil)) de_int) (dw_or1 (dt_not (dt_tru (de_isa (de_ix (de_name 0) de_int) T.z_isinstance T.z_str (.inr (.inr (.inl rfl))) bt_str)))))).dt (dss_one (dst_ret (de_non).rv)) dss_nil)
    (dss_cons (dst_set 1 sc_pays_in.nd (de_ix (de_name 0) de_int))
    (dss_cons (dst_if (dw_and (dt_cmp (in_ok (hu65 hr)) (de_name 1) (de_tup (da_cons de_str (da_cons de_str (da_cons de_str (da_cons de_str da_nil)))))) (dw_and1 (dt_cmp (eq_ok hr.units) (de_callB len_ok T.z_len bt_len (da_cons (de_name 0) da_nil)) de_int))).dt (dss_one (dst_ret ((de_callT list_ok T.z_list bt_list (da_cons (de_sl (de_name 0) (dpo_some de_int) dpo_none) da_nil))).rv)) dss_nil)
    (dss_cons (dst_if (dw_and (dt_cmp (eq_ok hr.units) (de_name 1) de_str) (dw_and (dt_cmp (eq_ok hr.units) (de_callB len_ok T.z_len bt_len (da_cons (de_name 0) da_nil)) de_int) (dw_and1 (dt_tru ((do_f (ok_is_number T) (hr.mono (by decide)) tk (da_cons (de_ix (de_name 0) de_int) (da_cons de_int (da_cons de_int da_nil))) (alenS (alenS (alenS alen0))))).frz)))).dt (dss_one (dst_ret (do_lst (da_cons (de_ix (de_name 0) de_int) da_nil)))) dss_nil)
    (dss_cons (dst_if (dw_and (dt_cmp (eq_ok hr.units) (de_name 1) de_str) (dw_and (dt_cmp (eq_ok hr.units) (de_callB len_ok T.z_len bt_len (da_cons (de_name 0) da_nil)) de_int) (dw_and (dt_tru ((do_f (ok_is_money T) (hr.mono (by decide)) tk (da_cons (de_ix (de_name 0) de_int) da_nil) (alenS alen0))).frz) (dw_and1 (dt_tru ((do_f (ok_is_money T) (hr.mono (by decide)) tk (da_cons (de_ix (de_name 0) de_int) da_nil) (alenS alen0))).frz))))).dt (dss_one (dst_ret (do_lst (da_cons (de_ix (de_name 0) de_int) da_nil)))) dss_nil)
    (dss_cons (dst_if (dw_and (dt_cmp (eq_ok hr.units) (de_name 1) de_str) (dw_and (dt_cmp (eq_ok hr.units) (de_callB len_ok T.z_len bt_len (da_cons (de_name 0) da_nil)) de_int) (dw_and (dt_tru ((do_f (ok_is_money T) (hr.mono (by decide)) tk (da_cons (de_ix (de_name 0) de_int) da_nil) (alenS alen0))).frz) (dw_and (dt_tru ((do_f (ok_is_money T) (hr.mono (by decide)) tk (da_cons (de_ix (de_name 0) de_int) da_nil) (alenS alen0))).frz) (dw_and1 (dt_cmp le_ok (de_ix (de_name 0) de_int) (de_ix (de_name 0) de_int))))))).dt (dss_one (dst_ret ((de_callT list_ok T.z_list bt_list (da_cons (de_sl (de_name 0) (dpo_some de_int) dpo_none) da_nil))).rv)) dss_nil)
    (dss_one (dst_ret (de_non).rv))))))))))
theorem ok_are_few__pays_in (T : Tx K mg) : Okf P w K mg base 4 "are_few" ["value", "parts_in"] (F_are_few__pays_in K) :=
  T.d_are_few.ok sc_are_few 3 rfl fun cdv A outer s H E hr tk po =>
    (dss_cons (dst_new 2 sc_are_few.nd (do_lst (da_cons (de_name 0) da_nil)))
    (dss_cons (dst_set 3 sc_are_few.nd de_int)
    (dss_cons (dst_while (fun _ _ => 100) po (dw_and (dt_tru (de_name 2)) (dw_and1 (dt_cmp le_ok (de_name 3) de_int))).dt (dss_cons (dst_set 4 sc_are_few.nd ((do_fL 1 (y := "pays_in") (ok_pays_in T) (hr.mono (by decide)) (da_cons (de_mt0 PySem.F.slot_list_pop PySem.F.type_list_pop pop_ok (de_name 2)) da_nil) (alenS alen0))).frz)
      (dss_cons (dst_if (dt_isn (de_name 4)) (dss_one (dst_ret (de_bl).rv)) dss_nil)
      (dss_cons (dst_set 3 sc_are_few.nd (de_op add_ok (de_name 3) de_int))
      (dss_one (dst_exp (de_mt PySem.F.slot_list_extend PySem.F.type_list_extend ext_ok (de_name 2) (da_cons (de_name 4) da_nil))))))))
    (dss_one (dst_ret ((de_cmp le_ok (de_name 3) de_int)).rv)))))
theorem ok_is_pay (T : Tx K mg) : Okf P w K mg base 5 "is_pay" ["value"] (F_is_pay K) :=
  T.d_is_pay.ok sc_is_pay 0 rfl fun cdv A outer s H E hr tk po =>
    (dss_one (dst_ret (do_f (ok_are_few__pays_in T) (hr.mono (by decide)) tk (da_cons (de_name 0) (da_cons (de_globF T.d_pays_in.g) da_nil)) (alenS (alenS alen0)))))
theorem st_ok_paid_by {k : Nat} (hk : 0 ≤ k) {f_paid_by : List S → M Rv} (T : Tx K mg) (h_paid_by : Okf P w K mg base k "paid_by" ["expression", "insured", "size"] f_paid_by) : Okf P w K mg base (k + 1) "paid_by" ["expression", "insured", "size"] (runG 3 (B_paid_by f_paid_by)) :=
  T.d_paid_by.ok sc_paid_by 3 rfl fun cdv A outer s H E hr tk po =>
    (dss_cons (dst_if (dt_tru (de_isa (de_name 0) T.z_isinstance T.z_str (.inr (.inr (.inl rfl))) bt_str)) (dss_one (dst_ret ((de_if (dt_cmp (eq_ok hr.units) (de_name 0) de_str) (de_name 2) (de_name 1))).rv)) dss_nil)
    (dss_cons (dst_if (dt_tru (de_isa (de_name 0) T.z_isinstance T.z_int (.inl rfl) bt_int)) (dss_one (dst_ret ((de_name 0)).rv)) dss_nil)
    (dss_cons (dst_set 3 sc_paid_by.nd (de_ix (de_name 0) de_int))
    (dss_cons (dst_if (dt_cmp (eq_ok hr.units) (de_name 3) de_str) (dss_one (dst_ret ((de_op mul_ok (de_ix (de_name 0) de_int) ((do_f h_paid_by hr tk (da_cons (de_ix (de_name 0) de_int) (da_cons (de_name 1) (da_cons (de_name 2) da_nil))) (alenS (alenS (alenS alen0))))).frz)).rv)) dss_nil)
    (dss_cons (dst_if (dt_cmp (eq_ok hr.units) (de_name 3) de_str) (dss_one (dst_ret ((de_callB (min_ok rfl) T.z_min bt_min (da_cons (de_callB (max_ok rfl) T.z_max bt_max (da_cons (de_op sub_ok ((do_f h_paid_by hr tk (da_cons (de_ix (de_name 0) de_int) (da_cons (de_name 1) (da_cons (de_name 2) da_nil))) (alenS (alenS (alenS alen0))))).frz (de_ix (de_name 0) de_int)) (da_cons de_int da_nil))) (da_cons (de_ix (de_name 0) de_int) da_nil)))).rv)) dss_nil)
    (dss_cons (dst_if (dt_cmp (eq_ok hr.units) (de_name 3) de_str) (dss_one (dst_ret (do_f h_paid_by hr tk (da_cons (de_if (dt_chn le_ok le_ok (de_ix (de_name 0) de_int) (de_name 2) (de_ix (de_name 0) de_int)) (de_ix (de_name 0) de_int) (de_ix (de_name 0) de_int)) (da_cons (de_name 1) (da_cons (de_name 2) da_nil))) (alenS (alenS (alenS alen0)))))) dss_nil)
    (dss_cons (dst_set 4 sc_paid_by.nd ((do_f h_paid_by hr tk (da_cons (de_ix (de_name 0) de_int) (da_cons (de_name 1) (da_cons (de_name 2) da_nil))) (alenS (alenS (alenS alen0))))).frz)
    (dss_cons (dst_set 5 sc_paid_by.nd ((do_f h_paid_by hr tk (da_cons (de_ix (de_name 0) de_int) (da_cons (de_name 1) (da_cons (de_name 2) da_nil))) (alenS (alenS (alenS alen0))))).frz)
    (dss_cons (dst_if (dt_cmp (eq_ok hr.units) (de_name 3) de_str) (dss_one (dst_ret ((de_callB (min_ok rfl) T.z_min bt_min (da_cons (de_name 4) (da_cons (de_name 5) da_nil)))).rv)) dss_nil)
    (dss_cons (dst_if (dt_cmp (eq_ok hr.units) (de_name 3) de_str) (dss_one (dst_ret ((de_callB (max_ok rfl) T.z_max bt_max (da_cons (de_name 4) (da_cons (de_name 5) da_nil)))).rv)) dss_nil)
    (dss_one (dst_ret ((de_if (dt_cmp (eq_ok hr.units) (de_name 3) de_str) (de_op add_ok (de_name 4) (de_name 5)) (de_op sub_ok (de_name 4) (de_name 5)))).rv))))))))))))
theorem ok_paid_by (T : Tx K mg) : ∀ n, Okf P w K mg base (0 + n) "paid_by" ["expression", "insured", "size"] (F_paid_by n)
  | 0 => T.d_paid_by.ok0
  | n + 1 => st_ok_paid_by (Nat.le_add_right _ _) T (ok_paid_by T n)
theorem ok_pay (T : Tx K mg) : Okf P w K mg base 9 "pay" ["expression", "insured", "size"] (F_pay K) :=
  T.d_pay.ok sc_pay 0 rfl fun cdv A outer s H E hr tk po =>
    (dss_cons (dst_if (dw_or (dt_not (dt_tru ((do_f (ok_is_pay T) (hr.mono (by decide)) tk (da_cons (de_name 0) da_nil) (alenS alen0))).frz)) (dw_or (dt_not (dt_tru ((do_f (ok_is_money T) (hr.mono (by decide)) tk (da_cons (de_name 1) da_nil) (alenS alen0))).frz)) (dw_or1 (dt_not (dt_tru ((do_f (ok_is_money T) (hr.mono (by decide)) tk (da_cons (de_name 2) da_nil) (alenS alen0))).frz))))).dt (dss_one (dst_rs T.x_BadWords tk)) dss_nil)
    (dss_one (dst_ret (do_f (ok_paid_by T 8) (hr.mono (by decide)) tk (da_cons (de_name 0) (da_cons (de_name 1) (da_cons (de_name 2) da_nil))) (alenS (alenS (alenS alen0)))))))
theorem ok__law_mixed (T : Tx K mg) : Okf P w K mg base 1 "_law_mixed" ["number", "k"] F__law_mixed :=
  T.d__law_mixed.ok sc__law_mixed 1 rfl fun cdv A outer s H E hr tk po =>
    (dss_cons (dst_set 2 sc__law_mixed.nd (de_op mod_ok (de_op add_ok (de_op add_ok (de_op mul_ok (de_name 0) de_int) (de_op mul_ok (de_name 1) de_int)) de_int) de_int))
    (dss_one (dst_ret ((de_op mod_ok (de_op add_ok (de_op mul_ok (de_name 2) (de_op add_ok (de_op fdiv_ok (de_name 2) de_int) de_int)) (de_name 1)) de_int)).rv)))
theorem ok__law_numbers (T : Tx K mg) : Okf P w K mg base 2 "_law_numbers" ["script"] F__law_numbers :=
  T.d__law_numbers.ok sc__law_numbers 4 rfl fun cdv A outer s H E hr tk po =>
    (dss_cons (dst_new 1 sc__law_numbers.nd (do_lst da_nil))
    (dss_cons (dst_for po (di_list (de_name 0)) (dg_name 2 sc__law_numbers.nd) (dss_one (dst_if (dt_cmp ge_ok (de_name 2) (de_op pow_ok de_int de_int)) (dss_cons (dst_set 3 sc__law_numbers.nd (de_name 2))
        (dss_one (dst_for po (di_rng de_int T.z_range) (dg_name 4 sc__law_numbers.nd) (dss_one (dst_if (dt_cmp gt_ok (de_name 3) de_int) (dss_cons (dst_exp (de_mt PySem.F.slot_list_append PySem.F.type_list_append app_ok (de_name 1) (da_cons (de_op mod_ok (de_name 3) de_int) da_nil)))
            (dss_one (dst_set 3 sc__law_numbers.nd (de_op fdiv_ok (de_name 3) de_int)))) dss_nil))))) (dss_cons (dst_exp (de_mt PySem.F.slot_list_append PySem.F.type_list_append app_ok (de_name 1) (da_cons (de_op mod_ok (de_name 2) de_int) da_nil)))
        (dss_one (dst_for po (di_rng de_int T.z_range) (dg_name 4 sc__law_numbers.nd) (dss_one (dst_exp (de_mt PySem.F.slot_list_append PySem.F.type_list_append app_ok (de_name 1) (da_cons (de_op mod_ok ((do_f (ok__law_mixed T) (hr.mono (by decide)) tk (da_cons ((do_f (ok__law_mixed T) (hr.mono (by decide)) tk (da_cons (de_op mod_ok (de_name 2) de_int) (da_cons (de_name 4) da_nil)) (alenS (alenS alen0)))).frz (da_cons (de_op add_ok (de_name 4) de_int) da_nil)) (alenS (alenS alen0)))).frz de_int) da_nil))))))))))
    (dss_one (dst_ret ((de_name 1)).rv))))
theorem ok__law_draw (T : Tx K mg) : Okf P w K mg base 2 "_law_draw" ["draws"] F__law_draw :=
  T.d__law_draw.ok sc__law_draw 2 rfl fun cdv A outer s H E hr tk po =>
    (dss_cons (dst_set 1 sc__law_draw.nd (de_ix (de_name 0) de_int))
    (dss_cons (dst_sub (de_op add_ok (de_name 1) de_int) (de_name 0) de_int)
    (dss_cons (dst_if (dt_cmp lt_ok (de_name 1) (de_callB len_ok T.z_len bt_len (da_cons (de_ix (de_name 0) de_int) da_nil))) (dss_one (dst_ret ((de_ix (de_ix (de_name 0) de_int) (de_name 1))).rv)) dss_nil)
    (dss_cons (dst_set 2 sc__law_draw.nd (de_op add_ok de_int (de_name 1)))
    (dss_cons (dst_if (dt_cmp gt_ok (de_callB len_ok T.z_len bt_len (da_cons (de_ix (de_name 0) de_int) da_nil)) de_int) (dss_one (dst_set 2 sc__law_draw.nd (de_op add_ok (de_name 2) (de_op mul_ok de_int (de_ix (de_ix (de_name 0) de_int) de_int))))) dss_nil)
    (dss_one (dst_ret ((de_op mod_ok ((do_f (ok__law_mixed T) (hr.mono (by decide)) tk (da_cons ((do_f (ok__law_mixed T) (hr.mono (by decide)) tk (da_cons (de_name 2) (da_cons (de_name 1) da_nil)) (alenS (alenS alen0)))).frz (da_cons de_int da_nil)) (alenS (alenS alen0)))).frz de_int)).rv)))))))
theorem st_ok__law_all_equal {k : Nat} (hk : 0 ≤ k) {f__law_all_equal : List S → M Rv} {f__law_equal : List S → M Rv} (T : Tx K mg) (h__law_all_equal : Okf P w K mg base k "_law_all_equal" ["actual", "due"] f__law_all_equal) (h__law_equal : Okf P w K mg base k "_law_equal" ["actual", "due"] f__law_equal) : Okf P w K mg base (k + 1) "_law_all_equal" ["actual", "due"] (runG 1 (B__law_all_equal f__law_all_equal f__law_equal)) :=
  T.d__law_all_equal.ok sc__law_all_equal 1 rfl fun cdv A outer s H E hr tk po =>
    (dss_cons (dst_for po (di_rng (de_callB len_ok T.z_len bt_len (da_cons (de_name 1) da_nil)) T.z_range) (dg_name 2 sc__law_all_equal.nd) (dss_one (dst_if (dt_not (dt_tru ((do_f h__law_equal hr tk (da_cons (de_ix (de_name 0) (de_name 2)) (da_cons (de_ix (de_name 1) (de_name 2)) da_nil)) (alenS (alenS alen0)))).frz)) (dss_one (dst_ret (de_bl).rv)) dss_nil)))
    (dss_one (dst_ret (de_bl).rv)))
theorem st_ok__law_equal {k : Nat} (hk : 0 ≤ k) {f__law_all_equal : List S → M Rv} {f__law_equal : List S → M Rv} (T : Tx K mg) (h__law_all_equal : Okf P w K mg base k "_law_all_equal" ["actual", "due"] f__law_all_equal) (h__law_equal : Okf P w K mg base k "_law_equal" ["actual", "due"] f__law_equal) : Okf P w K mg base (k + 1) "_law_equal" ["actual", "due"] (runG 0 (B__law_equal f__law_all_equal f__law_equal)) :=
  T.d__law_equal.ok sc__law_equal 0 rfl fun cdv A outer s H E hr tk po =>
    (dss_cons (dst_if (dt_tru (de_isa (de_name 1) T.z_isinstance T.z_list (.inr (.inr (.inr (.inl rfl)))) bt_list)) (dss_cons (dst_if (dw_or (dt_not (dt_tru (de_isa (de_name 0) T.z_isinstance T.z_list (.inr (.inr (.inr (.inl rfl)))) bt_list))) (dw_or1 (dt_cmp (ne_ok hr.units) (de_callB len_ok T.z_len bt_len (da_cons (de_name 0) da_nil)) (de_callB len_ok T.z_len bt_len (da_cons (de_name 1) da_nil))))).dt (dss_one (dst_ret (de_bl).rv)) dss_nil)
      (dss_one (dst_ret (do_f h__law_all_equal hr tk (da_cons (de_name 0) (da_cons (de_name 1) da_nil)) (alenS (alenS alen0)))))) dss_nil)
    (dss_cons (dst_if (dt_tru (de_isa (de_name 1) T.z_isinstance T.z_tuple (.inr (.inr (.inr (.inr (.inl rfl))))) bt_tuple)) (dss_cons (dst_if (dw_or (dt_not (dt_tru (de_isa (de_name 0) T.z_isinstance T.z_tuple (.inr (.inr (.inr (.inr (.inl rfl))))) bt_tuple))) (dw_or1 (dt_cmp (ne_ok hr.units) (de_callB len_ok T.z_len bt_len (da_cons (de_name 0) da_nil)) (de_callB len_ok T.z_len bt_len (da_cons (de_name 1) da_nil))))).dt (dss_one (dst_ret (de_bl).rv)) dss_nil)
      (dss_one (dst_ret (do_f h__law_all_equal hr tk (da_cons (de_name 0) (da_cons (de_name 1) da_nil)) (alenS (alenS alen0)))))) dss_nil)
    (dss_cons (dst_if (dt_tru (de_isa (de_name 1) T.z_isinstance T.z_bool (.inr (.inl rfl)) bt_bool)) (dss_one (dst_ret ((de_and (de_isa (de_name 0) T.z_isinstance T.z_bool (.inr (.inl rfl)) bt_bool) (de_one (de_cmp (eq_ok hr.units) (de_name 0) (de_name 1))))).rv)) dss_nil)
    (dss_cons (dst_if (dt_tru (de_isa (de_name 1) T.z_isinstance T.z_int (.inl rfl) bt_int)) (dss_one (dst_ret ((de_and (de_isa (de_name 0) T.z_isinstance T.z_int (.inl rfl) bt_int) (de_and (de_not (de_isa (de_name 0) T.z_isinstance T.z_bool (.inr (.inl rfl)) bt_bool)) (de_one (de_cmp (eq_ok hr.units) (de_name 0) (de_name 1)))))).rv)) dss_nil)
    (dss_cons (dst_if (dt_tru (de_isa (de_name 1) T.z_isinstance T.z_str (.inr (.inr (.inl rfl))) bt_str)) (dss_one (dst_ret ((de_and (de_isa (de_name 0) T.z_isinstance T.z_str (.inr (.inr (.inl rfl))) bt_str) (de_one (de_cmp (eq_ok hr.units) (de_name 0) (de_name 1))))).rv)) dss_nil)
    (dss_one (dst_ret ((de_isn (de_name 0))).rv)))))))
theorem oks__law_all_equal__law_equal (T : Tx K mg) : ∀ n, Okf P w K mg base (0 + n) "_law_all_equal" ["actual", "due"] (F__law_all_equal n) ∧ Okf P w K mg base (0 + n) "_law_equal" ["actual", "due"] (F__law_equal n)
  | 0 => ⟨T.d__law_all_equal.ok0, T.d__law_equal.ok0⟩
  | n + 1 => have ih := oks__law_all_equal__law_equal T n; ⟨st_ok__law_all_equal (Nat.le_add_right _ _) T ih.1 ih.2, st_ok__law_equal (Nat.le_add_right _ _) T ih.1 ih.2⟩
theorem ok__law_all_equal (T : Tx K mg) (n : Nat) : Okf P w K mg base (0 + n) "_law_all_equal" ["actual", "due"] (F__law_all_equal n) := (oks__law_all_equal__law_equal T n).1
theorem ok__law_equal (T : Tx K mg) (n : Nat) : Okf P w K mg base (0 + n) "_law_equal" ["actual", "due"] (F__law_equal n) := (oks__law_all_equal__law_equal T n).2
theorem st_ok__law_pay {k : Nat} (hk : 0 ≤ k) {f__law_pay : List S → M Rv} (T : Tx K mg) (h__law_pay : Okf P w K mg base k "_law_pay" ["expression", "insured", "size"] f__law_pay) : Okf P w K mg base (k + 1) "_law_pay" ["expression", "insured", "size"] (runG 3 (B__law_pay f__law_pay)) :=
  T.d__law_pay.ok sc__law_pay 3 rfl fun cdv A outer s H E hr tk po =>
    (dss_cons (dst_if (dt_cmp (eq_ok hr.units) (de_name 0) de_str) (dss_one (dst_ret ((de_name 2)).rv)) dss_nil)
    (dss_cons (dst_if (dt_cmp (eq_ok hr.units) (de_name 0) de_str) (dss_one (dst_ret ((de_name 1)).rv)) dss_nil)
    (dss_cons (dst_if (dt_tru (de_isa (de_name 0) T.z_isinstance T.z_int (.inl rfl) bt_int)) (dss_one (dst_ret ((de_name 0)).rv)) dss_nil)
    (dss_cons (dst_set 3 sc__law_pay.nd (de_ix (de_name 0) de_int))
    (dss_cons (dst_if (dt_cmp (eq_ok hr.units) (de_name 3) de_str) (dss_one (dst_ret ((de_op mul_ok (de_ix (de_name 0) de_int) ((do_f h__law_pay hr tk (da_cons (de_ix (de_name 0) de_int) (da_cons (de_name 1) (da_cons (de_name 2) da_nil))) (alenS (alenS (alenS alen0))))).frz)).rv)) dss_nil)
    (dss_cons (dst_if (dt_cmp (eq_ok hr.units) (de_name 3) de_str) (dss_one (dst_ret ((de_callB (min_ok rfl) T.z_min bt_min (da_cons (de_callB (max_ok rfl) T.z_max bt_max (da_cons (de_op sub_ok ((do_f h__law_pay hr tk (da_cons (de_ix (de_name 0) de_int) (da_cons (de_name 1) (da_cons (de_name 2) da_nil))) (alenS (alenS (alenS alen0))))).frz (de_ix (de_name 0) de_int)) (da_cons de_int da_nil))) (da_cons (de_ix (de_name 0) de_int) da_nil)))).rv)) dss_nil)
    (dss_cons (dst_if (dt_cmp (eq_ok hr.units) (de_name 3) de_str) (dss_one (dst_ret (do_f h__law_pay hr tk (da_cons (de_ix (de_name 0) (de_op add_ok de_int (de_callT int_ok T.z_int bt_int (da_cons (de_not (de_chn le_ok le_ok (de_ix (de_name 0) de_int) (de_name 2) (de_ix (de_name 0) de_int))) da_nil)))) (da_cons (de_name 1) (da_cons (de_name 2) da_nil))) (alenS (alenS (alenS alen0)))))) dss_nil)
    (dss_cons (dst_set 4 sc__law_pay.nd ((do_f h__law_pay hr tk (da_cons (de_ix (de_name 0) de_int) (da_cons (de_name 1) (da_cons (de_name 2) da_nil))) (alenS (alenS (alenS alen0))))).frz)
    (dss_cons (dst_set 5 sc__law_pay.nd ((do_f h__law_pay hr tk (da_cons (de_ix (de_name 0) de_int) (da_cons (de_name 1) (da_cons (de_name 2) da_nil))) (alenS (alenS (alenS alen0))))).frz)
    (dss_cons (dst_if (dt_cmp (eq_ok hr.units) (de_name 3) de_str) (dss_one (dst_ret ((de_op add_ok (de_name 4) (de_name 5))).rv)) dss_nil)
    (dss_cons (dst_if (dt_cmp (eq_ok hr.units) (de_name 3) de_str) (dss_one (dst_ret ((de_op sub_ok (de_name 4) (de_name 5))).rv)) dss_nil)
    (dss_one (dst_ret ((de_if (dt_cmp (eq_ok hr.units) (de_name 3) de_str) (de_callB (min_ok rfl) T.z_min bt_min (da_cons (de_name 4) (da_cons (de_name 5) da_nil))) (de_callB (max_ok rfl) T.z_max bt_max (da_cons (de_name 4) (da_cons (de_name 5) da_nil))))).rv)))))))))))))
theorem ok__law_pay (T : Tx K mg) : ∀ n, Okf P w K mg base (0 + n) "_law_pay" ["expression", "insured", "size"] (F__law_pay n)
  | 0 => T.d__law_pay.ok0
  | n + 1 => st_ok__law_pay (Nat.le_add_right _ _) T (ok__law_pay T n)
theorem st_ok__law_any_pay {k : Nat} (hk : 2 ≤ k) {f__law_any_pay : List S → M Rv} (T : Tx K mg) (h__law_any_pay : Okf P w K mg base k "_law_any_pay" ["draws", "depth"] f__law_any_pay) : Okf P w K mg base (k + 1) "_law_any_pay" ["draws", "depth"] (runG 5 (B__law_any_pay f__law_any_pay)) :=
  T.d__law_any_pay.ok sc__law_any_pay 5 rfl fun cdv A outer s H E hr tk po =>
    (dss_cons (dst_set 2 sc__law_any_pay.nd (de_op mod_ok ((do_fC (ok__law_draw T) (hr.mono (by omega)) tk (da_cons (de_name 0) da_nil) (alenS alen0))).frz de_int))
    (dss_cons (dst_set 3 sc__law_any_pay.nd (de_ix ((do_lst (da_cons de_int (da_cons de_int (da_cons de_int (da_cons de_int (da_cons de_int (da_cons de_int (da_cons de_int (da_cons (de_op pow_ok de_int de_int) (da_cons (de_op pow_ok de_int de_int) da_nil))))))))))).frz (de_op mod_ok ((do_fC (ok__law_draw T) (hr.mono (by omega)) tk (da_cons (de_name 0) da_nil) (alenS alen0))).frz de_int)))
    (dss_cons (dst_if (dw_or (dt_cmp lt_ok (de_name 2) de_int) (dw_or1 (dt_cmp (eq_ok hr.units) (de_name 1) de_int))).dt (dss_one (dst_ret ((de_ix ((do_lst (da_cons de_str (da_cons de_str (da_cons de_str (da_cons (de_name 3) (da_cons (de_name 3) da_nil))))))).frz (de_op mod_ok ((do_fC (ok__law_draw T) (hr.mono (by omega)) tk (da_cons (de_name 0) da_nil) (alenS alen0))).frz de_int))).rv)) dss_nil)
    (dss_cons (dst_set 4 sc__law_any_pay.nd ((do_fC h__law_any_pay hr tk (da_cons (de_name 0) (da_cons (de_op sub_ok (de_name 1) de_int) da_nil)) (alenS (alenS alen0)))).frz)
    (dss_cons (dst_if (dt_cmp (eq_ok hr.units) (de_name 2) de_int) (dss_one (dst_ret ((de_tup (da_cons de_str (da_cons (de_ix ((do_lst (da_cons de_int (da_cons de_int (da_cons de_int (da_cons de_int (da_cons de_int da_nil))))))).frz (de_op mod_ok ((do_fC (ok__law_draw T) (hr.mono (by omega)) tk (da_cons (de_name 0) da_nil) (alenS alen0))).frz de_int)) (da_cons (de_name 4) da_nil))))).rv)) dss_nil)
    (dss_cons (dst_if (dt_cmp (eq_ok hr.units) (de_name 2) de_int) (dss_one (dst_ret ((de_tup (da_cons de_str (da_cons (de_name 4) (da_cons (de_name 3) (da_cons (de_ix ((do_lst (da_cons de_int (da_cons de_int (da_cons de_int (da_cons de_int da_nil)))))).frz (de_op mod_ok ((do_fC (ok__law_draw T) (hr.mono (by omega)) tk (da_cons (de_name 0) da_nil) (alenS alen0))).frz de_int)) da_nil)))))).rv)) dss_nil)
    (dss_cons (dst_set 5 sc__law_any_pay.nd ((do_fC h__law_any_pay hr tk (da_cons (de_name 0) (da_cons (de_op sub_ok (de_name 1) de_int) da_nil)) (alenS (alenS alen0)))).frz)
    (dss_cons (dst_if (dt_cmp (eq_ok hr.units) (de_name 2) de_int) (dss_cons (dst_set 6 sc__law_any_pay.nd (de_ix ((do_lst (da_cons de_int (da_cons de_int (da_cons de_int (da_cons de_int (da_cons de_int da_nil))))))).frz (de_op mod_ok ((do_fC (ok__law_draw T) (hr.mono (by omega)) tk (da_cons (de_name 0) da_nil) (alenS alen0))).frz de_int)))
      (dss_one (dst_ret ((de_tup (da_cons de_str (da_cons (de_name 6) (da_cons (de_op add_ok (de_name 6) (de_ix ((do_lst (da_cons de_int (da_cons de_int (da_cons de_int (da_cons (de_op pow_ok de_int de_int) da_nil)))))).frz (de_op mod_ok ((do_fC (ok__law_draw T) (hr.mono (by omega)) tk (da_cons (de_name 0) da_nil) (alenS alen0))).frz de_int))) (da_cons (de_name 4) (da_cons (de_name 5) da_nil))))))).rv))) dss_nil)
    (dss_one (dst_ret ((de_tup (da_cons (de_ix ((do_lst (da_cons de_str (da_cons de_str (da_cons de_str (da_cons de_str da_nil)))))).frz (de_op mod_ok (de_name 2) de_int)) (da_cons (de_name 4) (da_cons (de_name 5) da_nil))))).rv))))))))))
theorem ok__law_any_pay (T : Tx K mg) : ∀ n, Okf P w K mg base (2 + n) "_law_any_pay" ["draws", "depth"] (F__law_any_pay n)
  | 0 => T.d__law_any_pay.ok0
  | n + 1 => st_ok__law_any_pay (Nat.le_add_right _ _) T (ok__law_any_pay T n)
theorem ok_law (T : Tx K mg) : Okf P w K mg base 11 "law" ["script"] (F_law K) :=
  T.d_law.ok sc_law 5 rfl fun cdv A outer s H E hr tk po =>
    (dss_cons (dst_new 1 sc_law.nd (do_lst (da_cons ((do_f (ok__law_numbers T) (hr.mono (by decide)) tk (da_cons (de_name 0) da_nil) (alenS alen0))).frz (da_cons de_int da_nil))))
    (dss_cons (dst_for po (di_rng de_int T.z_range) (dg_name 2 sc_law.nd) (dss_cons (dst_set 3 sc_law.nd ((do_fC (ok__law_any_pay T 8) (hr.mono (by decide)) tk (da_cons (de_name 1) (da_cons (de_op add_ok (de_op mod_ok (de_name 2) de_int) de_int) da_nil)) (alenS (alenS alen0)))).frz)
      (dss_cons (dst_set 4 sc_law.nd (de_ix ((do_lst (da_cons de_int (da_cons de_int (da_cons de_int (da_cons de_int (da_cons (de_op pow_ok de_int de_int) (da_cons (de_op pow_ok de_int de_int) da_nil)))))))).frz (de_op mod_ok ((do_fC (ok__law_draw T) (hr.mono (by decide)) tk (da_cons (de_name 1) da_nil) (alenS alen0))).frz de_int)))
      (dss_one (dst_for po (di_list ((do_lst (da_cons de_int (da_cons de_int (da_cons de_int (da_cons de_int (da_cons de_int (da_cons de_int (da_cons de_int (da_cons de_int (da_cons de_int (da_cons de_int (da_cons ((do_fC (ok__law_draw T) (hr.mono (by decide)) tk (da_cons (de_name 1) da_nil) (alenS alen0))).frz (da_cons (de_op pow_ok de_int de_int) (da_cons (de_op sub_ok (de_op sub_ok (de_op pow_ok de_int de_int) de_int) ((do_fC (ok__law_draw T) (hr.mono (by decide)) tk (da_cons (de_name 1) da_nil) (alenS alen0))).frz) da_nil))))))))))))))).frz) (dg_name 5 sc_law.nd) (dss_one (dst_if (dt_not (dt_tru ((do_f (ok__law_equal T 3) (hr.mono (by decide)) tk (da_cons ((do_f (ok_pay T) (hr.mono (by decide)) tk (da_cons (de_name 3) (da_cons (de_name 4) (da_cons (de_name 5) da_nil))) (alenS (alenS (alenS alen0))))).frz (da_cons ((do_f (ok__law_pay T 8) (hr.mono (by decide)) tk (da_cons (de_name 3) (da_cons (de_name 4) (da_cons (de_name 5) da_nil))) (alenS (alenS (alenS alen0))))).frz da_nil)) (alenS (alenS alen0)))).frz)) (dss_one (dst_ret (de_bl).rv)) dss_nil)))))))
    (dss_one (dst_ret (de_bl).rv))))
theorem law_fn {fd : FuncData} (T : Tx K mg) (Fd : FunD K "law" "law" (defArgs st_law) (defBody st_law) (defScope st_law) [] [] (He.ga K "law") fd) : FnOk P w K mg base (L2.CX P w) 11 (He.ga K "law") fd ["script"] (spE mg 1 (F_law K)) :=
  def_ok Fd sc_law 5 rfl fun cdv A outer s H E hr tk po =>
    (dss_cons (dst_new 1 sc_law.nd (do_lst (da_cons ((do_f (ok__law_numbers T) (hr.mono (by decide)) tk (da_cons (de_name 0) da_nil) (alenS alen0))).frz (da_cons de_int da_nil))))
    (dss_cons (dst_for po (di_rng de_int T.z_range) (dg_name 2 sc_law.nd) (dss_cons (dst_set 3 sc_law.nd ((do_fC (ok__law_any_pay T 8) (hr.mono (by decide)) tk (da_cons (de_name 1) (da_cons (de_op add_ok (de_op mod_ok (de_name 2) de_int) de_int) da_nil)) (alenS (alenS alen0)))).frz)
      (dss_cons (dst_set 4 sc_law.nd (de_ix ((do_lst (da_cons de_int (da_cons de_int (da_cons de_int (da_cons de_int (da_cons (de_op pow_ok de_int de_int) (da_cons (de_op pow_ok de_int de_int) da_nil)))))))).frz (de_op mod_ok ((do_fC (ok__law_draw T) (hr.mono (by decide)) tk (da_cons (de_name 1) da_nil) (alenS alen0))).frz de_int)))
      (dss_one (dst_for po (di_list ((do_lst (da_cons de_int (da_cons de_int (da_cons de_int (da_cons de_int (da_cons de_int (da_cons de_int (da_cons de_int (da_cons de_int (da_cons de_int (da_cons de_int (da_cons ((do_fC (ok__law_draw T) (hr.mono (by decide)) tk (da_cons (de_name 1) da_nil) (alenS alen0))).frz (da_cons (de_op pow_ok de_int de_int) (da_cons (de_op sub_ok (de_op sub_ok (de_op pow_ok de_int de_int) de_int) ((do_fC (ok__law_draw T) (hr.mono (by decide)) tk (da_cons (de_name 1) da_nil) (alenS alen0))).frz) da_nil))))))))))))))).frz) (dg_name 5 sc_law.nd) (dss_one (dst_if (dt_not (dt_tru ((do_f (ok__law_equal T 3) (hr.mono (by decide)) tk (da_cons ((do_f (ok_pay T) (hr.mono (by decide)) tk (da_cons (de_name 3) (da_cons (de_name 4) (da_cons (de_name 5) da_nil))) (alenS (alenS (alenS alen0))))).frz (da_cons ((do_f (ok__law_pay T 8) (hr.mono (by decide)) tk (da_cons (de_name 3) (da_cons (de_name 4) (da_cons (de_name 5) da_nil))) (alenS (alenS (alenS alen0))))).frz da_nil)) (alenS (alenS alen0)))).frz)) (dss_one (dst_ret (de_bl).rv)) dss_nil)))))))
    (dss_one (dst_ret (de_bl).rv))))
end
end Law

set_option Elab.async false
set_option linter.all false
set_option maxRecDepth 100000
set_option maxHeartbeats 4000000
namespace Law
open PySem L2 Dn
def fan : List He.Fa := [.glo "is_number", .glo "is_money", .glo "are_few", .glo "pays_in", .glo "is_pay", .glo "paid_by", .glo "pay", .glo "_law_mixed", .glo "_law_numbers", .glo "_law_draw", .glo "_law_equal", .glo "_law_all_equal", .glo "_law_pay", .glo "_law_any_pay", .glo "law", .free "bool", .free "int", .free "isinstance", .free "len", .free "list", .free "max", .free "min", .free "range", .free "str", .free "tuple", .int "MONEY" (1000000000000), .glo "WhatbefellError", .exc "WhatbefellError", .glo "BadWords", .exc "BadWords"]
def fnn : List He.DefD := [dfd "is_number" st_is_number, dfd "is_money" st_is_money, dfd "are_few" st_are_few, dfd "pays_in" st_pays_in, dfd "is_pay" st_is_pay, dfd "paid_by" st_paid_by, dfd "pay" st_pay, dfd "_law_mixed" st__law_mixed, dfd "_law_numbers" st__law_numbers, dfd "_law_draw" st__law_draw, dfd "_law_equal" st__law_equal, dfd "_law_all_equal" st__law_all_equal, dfd "_law_pay" st__law_pay, dfd "_law_any_pay" st__law_any_pay, dfd "law" st_law]
abbrev R : PySem.W.OpenRow := PySem.W.OpenLaw.row PySem.Challenge.rw_whatbefell_k08_pays_are_reckoned
def loo0 : List PySem.Str := ["WhatbefellError", "BadWords", "MONEY", "is_number", "is_money", "are_few", "pays_in", "is_pay", "paid_by", "pay", "_law_mixed", "_law_numbers", "_law_draw", "_law_equal", "_law_all_equal", "_law_pay", "_law_any_pay"]
def loo : List PySem.Str := loo0
theorem run (w : World) : HandSHeadRun.RunEq R (PySem.W.view R.prog [21]) (hookL 5 fan fnn) (obL 5 fan fnn) 6000 loo w := by
  intro os
  kernel_rfl
theorem tx_of {K : PySem.W.Frag} {mg : PySem.Str → Option Value} {h : Heap} (X : K.In h) (G : h.Ns mainGlobals mg) (c : He.SaysD fan fnn K) : Tx K mg where
  z_bool := He.free_ok X G (c.fact 15 rfl)
  z_int := He.free_ok X G (c.fact 16 rfl)
  z_isinstance := He.free_ok X G (c.fact 17 rfl)
  z_len := He.free_ok X G (c.fact 18 rfl)
  z_list := He.free_ok X G (c.fact 19 rfl)
  z_max := He.free_ok X G (c.fact 20 rfl)
  z_min := He.free_ok X G (c.fact 21 rfl)
  z_range := He.free_ok X G (c.fact 22 rfl)
  z_str := He.free_ok X G (c.fact 23 rfl)
  z_tuple := He.free_ok X G (c.fact 24 rfl)
  m_MONEY := He.int_ok X G (c.fact 25 rfl)
  x_WhatbefellError := exf_of X G c 26 27 rfl rfl
  x_BadWords := exf_of X G c 28 29 rfl rfl
  d_is_number := dfn_of X G c 0 0 rfl rfl fun _ _ _ _ _ _ us hl => match us, hl with | [_, _, _], _ => rfl
  d_is_money := dfn_of X G c 1 1 rfl rfl fun _ _ _ _ _ _ us hl => match us, hl with | [_], _ => rfl
  d_are_few := dfn_of X G c 2 2 rfl rfl fun _ _ _ _ _ _ us hl => match us, hl with | [_, _], _ => rfl
  d_pays_in := dfn_of X G c 3 3 rfl rfl fun _ _ _ _ _ _ us hl => match us, hl with | [_], _ => rfl
  d_is_pay := dfn_of X G c 4 4 rfl rfl fun _ _ _ _ _ _ us hl => match us, hl with | [_], _ => rfl
  d_paid_by := dfn_of X G c 5 5 rfl rfl fun _ _ _ _ _ _ us hl => match us, hl with | [_, _, _], _ => rfl
  d_pay := dfn_of X G c 6 6 rfl rfl fun _ _ _ _ _ _ us hl => match us, hl with | [_, _, _], _ => rfl
  d__law_mixed := dfn_of X G c 7 7 rfl rfl fun _ _ _ _ _ _ us hl => match us, hl with | [_, _], _ => rfl
  d__law_numbers := dfn_of X G c 8 8 rfl rfl fun _ _ _ _ _ _ us hl => match us, hl with | [_], _ => rfl
  d__law_draw := dfn_of X G c 9 9 rfl rfl fun _ _ _ _ _ _ us hl => match us, hl with | [_], _ => rfl
  d__law_equal := dfn_of X G c 10 10 rfl rfl fun _ _ _ _ _ _ us hl => match us, hl with | [_, _], _ => rfl
  d__law_all_equal := dfn_of X G c 11 11 rfl rfl fun _ _ _ _ _ _ us hl => match us, hl with | [_, _], _ => rfl
  d__law_pay := dfn_of X G c 12 12 rfl rfl fun _ _ _ _ _ _ us hl => match us, hl with | [_, _, _], _ => rfl
  d__law_any_pay := dfn_of X G c 13 13 rfl rfl fun _ _ _ _ _ _ us hl => match us, hl with | [_, _], _ => rfl
  d_law := dfn_of X G c 14 14 rfl rfl fun _ _ _ _ _ _ us hl => match us, hl with | [_], _ => rfl
end Law
open PySem PySem.W PySem.Calls PyProof.Rows
set_option maxHeartbeats 0 in
theorem PySem.Challenge.cw_whatbefell_k08_pays_are_reckoned_holds : PySem.Challenge.rw_whatbefell_k08_pays_are_reckoned.Holds := by
  w_on; o_law
  refine HandSHeadRun.head_any (r := OpenLaw.row PySem.Challenge.rw_whatbefell_k08_pays_are_reckoned) (q := view (OpenLaw.row PySem.Challenge.rw_whatbefell_k08_pays_are_reckoned).prog [21]) (H := Dn.hookL 5 Law.fan Law.fnn) (ob := Dn.obL 5 Law.fan Law.fnn) (M := 6000) (loose := Law.loo) (d := HandSHeadRun.topDef (OpenLaw.row PySem.Challenge.rw_whatbefell_k08_pays_are_reckoned).prog 21) (kwd := []) (Dn.obL_eq 5 Law.fan Law.fnn)
    (by kernel_rfl) (fun s => by kernel_rfl) Law.run (by kernel_rfl) (by kernel_rfl) (by kernel_rfl) (by rfl) (by first | assumption | decide +kernel) (by decide +kernel) ⟨rfl, rfl, rfl, rfl, rfl, by decide +kernel⟩ ?hw ?hc
  case hw => w_witness2
  case hc =>
    refine Dn.law_end (l := PySem.Challenge.rw_whatbefell_k08_pays_are_reckoned) (n := 63) (k := 11) (x := "script") (F := fun K => Law.F_law K) rfl (by decide) (by kernel_rfl) ⟨rfl, by decide, by decide⟩ ?_ (fun K ns h => Law.law_true K ns h)
    intro w mg h K X c G
    have T : Law.Tx K mg := Law.tx_of X G c
    have e : (HandSHeadRun.topDef (OpenLaw.row PySem.Challenge.rw_whatbefell_k08_pays_are_reckoned).prog 21).name = ("law" : PySem.Str) := by kernel_rfl
    rw [e]
    obtain ⟨fd, F⟩ := c.def_ 14 (d := Dn.dfd "law" Law.st_law) rfl
    have b := L2.FunD.bindsA (ps := ["script"]) F fun _ _ _ _ _ _ us hl => match us, hl with | [_], _ => rfl
    refine ⟨fd, T.d_law.g, fun s v => b s [v] rfl, fun base _ _ => ?_⟩
    exact Law.law_fn T F
