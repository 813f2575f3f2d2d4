import PyProof.Rows.All
import Wide.All
import OpenK.AllK
import Wide.FinOn
import HandS.ForMost
import HandS.ForExc
import HandS.IsInst
import HandS.Flow
import HandS.Wide
import HandS.Evl
import HandS.TupAny
import HandS.Deep
import HandS.CallLocal
import HandS.Rev
import HandS.Defaults
import HandS.Exc
import HandS.ExcOwn
import HandS.TryOnly
import HandS.WordsExc
import KE.KStateDown
import HandS.Head0
import HandS.Head1
import HandS.Head2
import HandS.HeadEnd
import HandS.HeadHook1
import HandS.HeadHook2
import HandS.HeadHook4
import HandS.Comp
import HandS.SetKeys
import HandS.Set
import HandS.SetFor
import PyProof.Rows.SortShellAny
import HandS.TupSets
import HandS.Iter
import HandS.ExcIs
import HandS.RaiseMore
import HandS.TupMul
import HandS.List
import PyProof.ReprRoads
import PyProof.ReprBulk
import HandS.Dict
import HandS.More
import HandS.Style
import PySem.Challenge.RW_whatbefell_k09_whole_words_rise_by_nough
set_option Elab.async false
set_option linter.all false
set_option maxRecDepth 100000
set_option maxHeartbeats 1000000
/-! Dn1: a def's body as a shallow Lean function over data and a small store: the relation, the judgements. -/
namespace Dn
open PySem L2

abbrev D := PyData
abbrev Ex (H H' : Hp) : Prop := ∀ a o, H a = some o → H' a = some o

/-- a slot: nothing, data, a cell of the store, a def -/
inductive S where
  | no
  | d (x : D)
  | cel (j : Nat)
  | fn (a : Addr)
/-- what a cell holds -/
inductive OC where
  | lst (xs : List D)
  | dK (kvs : List (Key × D))
/-- a result: data, a new object, a cell -/
inductive Rv where
  | d (x : D)
  | own (o : OC)
  | cel (j : Nat)
abbrev Store := List OC
inductive Res (α : Type) where
  | ok (a : α) (cs : Store)
  | er (c : Str) (cs : Store)
  | no
abbrev M (α : Type) := Store → Res α
section
variable {α β : Type}
def ret (a : α) : M α := fun cs => .ok a cs
def stuck : M α := fun _ => .no
def bnd (m : M α) (k : α → M β) : M β := fun cs => match m cs with
  | .ok a cs' => k a cs'
  | .er c cs' => .er c cs'
  | .no => .no
def ofO : Option α → M α
  | some a => ret a
  | none => stuck
theorem bnd_ok {m : M α} {k : α → M β} {cs cs' : Store} {a : α} (h : m cs = .ok a cs') : bnd m k cs = k a cs' := by
  unfold bnd; rw [h]
theorem bnd_ret {a : α} {k : α → M β} : bnd (ret a) k = k a := rfl
end

/-! ### data in the heap -/
mutual
inductive Dd (H : Hp) : V → D → Prop
  | non : Dd H .non .none
  | bl (b : Bool) : Dd H (.bl b) (.bool b)
  | int (i : Int) : Dd H (.int i) (.int i)
  | str (x : Str) : Dd H (.str x) (.str x)
  | lst {a : Addr} {xs : List V} {ds : List D} : Rd H a (.lst xs) → Dds H xs ds → Dd H (.ref a) (.list ds)
  | tup {a : Addr} {xs : List V} {ds : List D} : Rd H a (.tup xs) → Dds H xs ds → Dd H (.ref a) (.tuple ds)
inductive Dds (H : Hp) : List V → List D → Prop
  | nil : Dds H [] []
  | cons {v : V} {vs : List V} {d : D} {ds : List D} : Dd H v d → Dds H vs ds → Dds H (v :: vs) (d :: ds)
end
theorem rd_ex {H H' : Hp} (e : Ex H H') {a : Addr} {u : HO} (h : Rd H a u) : Rd H' a u := by
  rcases h with h | ⟨o, h⟩
  · exact .inl (e a _ h)
  · exact .inr ⟨o, e a _ h⟩
mutual
theorem dp_ex {H H' : Hp} (e : Ex H H') : ∀ {v : V} {d : D}, Dd H v d → Dd H' v d
  | _, _, .non => .non
  | _, _, .bl b => .bl b
  | _, _, .int i => .int i
  | _, _, .str x => .str x
  | _, _, .lst h a => .lst (rd_ex e h) (dps_ex e a)
  | _, _, .tup h a => .tup (rd_ex e h) (dps_ex e a)
theorem dps_ex {H H' : Hp} (e : Ex H H') : ∀ {vs : List V} {ds : List D}, Dds H vs ds → Dds H' vs ds
  | _, _, .nil => .nil
  | _, _, .cons h t => .cons (dp_ex e h) (dps_ex e t)
end
mutual
theorem dd_dp (K : PySem.W.Frag) {H : Hp} : ∀ {v : V} {d : D}, Dd H v d → Dp K H v d
  | _, _, .non => .non
  | _, _, .bl b => .bl b
  | _, _, .int i => .int i
  | _, _, .str x => .str x
  | _, _, .lst h a => .lst (.inl h) (dds_dp K a)
  | _, _, .tup h a => .tup (.inl h) (dds_dp K a)
theorem dds_dp (K : PySem.W.Frag) {H : Hp} : ∀ {vs : List V} {ds : List D}, Dds H vs ds → DpAll K H vs ds
  | _, _, .nil => .nil
  | _, _, .cons h t => .cons (dd_dp K h) (dds_dp K t)
end
section
variable {H H' Hf : Hp} {vs ws : List V} {ds es : List D} {v : V} {d : D}
theorem dps_len : ∀ {vs : List V} {ds : List D}, Dds H vs ds → vs.length = ds.length
  | _, _, .nil => rfl
  | _, _, .cons _ t => by rw [List.length_cons, List.length_cons, dps_len t]
theorem dps_get : ∀ {vs : List V} {ds : List D} {i : Nat} {d : D}, Dds H vs ds → ds[i]? = some d → ∃ v, vs[i]? = some v ∧ Dd H v d
  | _, _, _, _, .nil, e => by simp at e
  | _, _, 0, _, .cons h _, e => by simp at e; subst e; exact ⟨_, rfl, h⟩
  | _, _, i + 1, _, .cons _ t, e => by
    obtain ⟨v, h1, h2⟩ := dps_get (i := i) t (by simpa using e)
    exact ⟨v, by simpa using h1, h2⟩
theorem dps_get' : ∀ {vs : List V} {ds : List D} {i : Nat} {v : V}, Dds H vs ds → vs[i]? = some v → ∃ d, ds[i]? = some d ∧ Dd H v d
  | _, _, _, _, .nil, e => by simp at e
  | _, _, 0, _, .cons h _, e => by simp at e; subst e; exact ⟨_, rfl, h⟩
  | _, _, i + 1, _, .cons _ t, e => by
    obtain ⟨v, h1, h2⟩ := dps_get' (i := i) t (by simpa using e)
    exact ⟨v, by simpa using h1, h2⟩
theorem dps_app : ∀ {vs ws : List V} {ds es : List D}, Dds H vs ds → Dds H ws es → Dds H (vs ++ ws) (ds ++ es)
  | _, _, _, _, .nil, s => s
  | _, _, _, _, .cons h t, s => .cons h (dps_app t s)
theorem dps_take : ∀ (n : Nat) {vs : List V} {ds : List D}, Dds H vs ds → Dds H (vs.take n) (ds.take n)
  | 0, _, _, _ => .nil
  | _ + 1, _, _, .nil => .nil
  | n + 1, _, _, .cons h t => .cons h (dps_take n t)
theorem dps_drop : ∀ (n : Nat) {vs : List V} {ds : List D}, Dds H vs ds → Dds H (vs.drop n) (ds.drop n)
  | 0, _, _, h => h
  | _ + 1, _, _, .nil => .nil
  | n + 1, _, _, .cons _ t => dps_drop n t
theorem dps_set : ∀ {vs : List V} {ds : List D} {v : V} {d : D} (i : Nat), Dds H vs ds → Dd H v d → Dds H (vs.set i v) (ds.set i d)
  | _, _, _, _, _, .nil, _ => .nil
  | _, _, _, _, 0, .cons _ t, h => .cons h t
  | _, _, _, _, i + 1, .cons h' t, h => .cons h' (dps_set i t h)
theorem dps_dropLast (h : Dds H vs ds) : Dds H vs.dropLast ds.dropLast := by
  rw [List.dropLast_eq_take, List.dropLast_eq_take, dps_len h]
  exact dps_take _ h
end

/-- the content of a cell at a -/
def CellOk (Hf H : Hp) (a : Addr) : OC → Prop
  | .lst xs => ∃ vs, H a = some (.lst vs) ∧ Dds Hf vs xs
  | .dK kvs => ∃ ws, H a = some (.dK ws) ∧ Paired (fun (p : Key × V) (q : Key × D) => p.1 = q.1 ∧ Dd Hf p.2 q.2) ws kvs
def SvOk (ca : List Addr) (Hf : Hp) : S → V → Prop
  | .no, _ => False
  | .d x, v => Dd Hf v x
  | .cel j, v => ∃ a, ca[j]? = some a ∧ v = .ref a
  | .fn a, v => v = .ref a
/-- B: what is banned: the callers' things that are not ours -/
def RvOk (B : Hp) (ca : List Addr) (Hf H : Hp) : Rv → V → Prop
  | .d x, v => Dd Hf v x
  | .own o, v => ∃ a, v = .ref a ∧ CellOk Hf H a o ∧ Hf a = none ∧ a ∉ ca ∧ B a = none
  | .cel j, v => ∃ a, ca[j]? = some a ∧ v = .ref a
inductive SvsOk (ca : List Addr) (Hf : Hp) : List S → List V → Prop
  | nil : SvsOk ca Hf [] []
  | cons {s : S} {ss : List S} {v : V} {vs : List V} : SvOk ca Hf s v → SvsOk ca Hf ss vs → SvsOk ca Hf (s :: ss) (v :: vs)

structure Rel (B : Hp) (ca : List Addr) (ρ : List S) (cs : Store) (Hf : Hp) (σ : L2.St) (H : Hp) : Prop where
  ext : Ex Hf H
  len : σ.length = ρ.length
  sl : ∀ (i : Nat) (s : S), ρ[i]? = some s → s = .no ∨ ∃ v, σ[i]? = some (some v) ∧ SvOk ca Hf s v
  cells : ∀ (j : Nat) (o : OC), cs[j]? = some o → ∃ a, ca[j]? = some a ∧ CellOk Hf H a o
  lenc : ca.length = cs.length
  nd : ca.Nodup
  off : ∀ a ∈ ca, Hf a = none
  exb : Ex B H
  dis : ∀ a, B a ≠ none → Hf a = none ∧ a ∉ ca

structure Nx (ca : List Addr) (Hf : Hp) (ca' : List Addr) (Hf' : Hp) : Prop where
  pre : ca <+: ca'
  ex : Ex Hf Hf'
section
variable {B : Hp} {ca ca' ca'' : List Addr} {ρ : List S} {cs cs' : Store} {Hf Hf' Hf'' : Hp} {σ : L2.St} {H H' H'' : Hp} {s : S} {v : V} {r : Rv} {a : Addr} {o : OC}
theorem CellOk.some (h : CellOk Hf H a o) : H a ≠ none := by
  cases o with
  | lst xs => obtain ⟨vs, e, _⟩ := h; rw [e]; simp
  | dK kvs => obtain ⟨vs, e, _⟩ := h; rw [e]; simp
theorem CellOk.at (h : CellOk Hf H a o) (e : H' a = H a) (x : Ex Hf Hf') : CellOk Hf' H' a o := by
  cases o with
  | lst xs => obtain ⟨vs, q, p⟩ := h; exact ⟨vs, e.trans q, dps_ex x p⟩
  | dK kvs => obtain ⟨vs, q, p⟩ := h; exact ⟨vs, e.trans q, Paired.mapP p fun _ _ z => ⟨z.1, dp_ex x z.2⟩⟩
theorem Rel.there (r : Rel B ca ρ cs Hf σ H) (ha : a ∈ ca) : H a ≠ none := by
  obtain ⟨j, hj, e⟩ := List.mem_iff_getElem.mp ha
  have hj' : j < cs.length := by rw [← r.lenc]; exact hj
  obtain ⟨b, h1, h2⟩ := r.cells j cs[j] (by simp [hj'])
  have : b = a := by
    rw [List.getElem?_eq_getElem hj] at h1
    rw [← e]; exact (Option.some.inj h1).symm
  subst this
  exact h2.some
theorem Nx.refl : Nx ca Hf ca Hf := ⟨List.prefix_refl _, fun _ _ h => h⟩
theorem Nx.trans (x : Nx ca Hf ca' Hf') (y : Nx ca' Hf' ca'' Hf'') : Nx ca Hf ca'' Hf'' := ⟨x.pre.trans y.pre, fun a o h => y.ex a o (x.ex a o h)⟩
theorem SvOk.nx (h : SvOk ca Hf s v) (x : Nx ca Hf ca' Hf') : SvOk ca' Hf' s v := by
  cases s with
  | no => exact h
  | d d => exact dp_ex x.ex h
  | fn a => exact h
  | cel j =>
    obtain ⟨a, e, z⟩ := h
    exact ⟨a, by
      obtain ⟨t, rfl⟩ := x.pre
      rw [List.getElem?_append_left (List.getElem?_eq_some_iff.mp e).1]
      exact e, z⟩
theorem SvsOk.nx {ss : List S} {vs : List V} (h : SvsOk ca Hf ss vs) (x : Nx ca Hf ca' Hf') : SvsOk ca' Hf' ss vs := by
  induction h with
  | nil => exact .nil
  | cons h _ ih => exact .cons (h.nx x) ih
theorem SvsOk.len {ss : List S} {vs : List V} (h : SvsOk ca Hf ss vs) : ss.length = vs.length := by
  induction h with
  | nil => rfl
  | cons _ _ ih => simp [ih]
theorem SvsOk.get {ss : List S} {vs : List V} (h : SvsOk ca Hf ss vs) {i : Nat} {s : S} (e : ss[i]? = some s) : ∃ v, vs[i]? = some v ∧ SvOk ca Hf s v := by
  induction h generalizing i with
  | nil => simp at e
  | cons h _ ih =>
    cases i with
    | zero => simp at e; subst e; exact ⟨_, rfl, h⟩
    | succ i =>
      obtain ⟨v, h1, h2⟩ := ih (i := i) (by simpa using e)
      exact ⟨v, by simpa using h1, h2⟩
/-- slots of another kind over the same heap -/
theorem Rel.slots {ρ' : List S} {σ' : L2.St} (r : Rel B ca ρ cs Hf σ H) (hl : σ'.length = ρ'.length) (h : ∀ (i : Nat) (s : S), ρ'[i]? = some s → s = .no ∨ ∃ v, σ'[i]? = some (some v) ∧ SvOk ca Hf s v) : Rel B ca ρ' cs Hf σ' H :=
  ⟨r.ext, hl, h, r.cells, r.lenc, r.nd, r.off, r.exb, r.dis⟩
/-- the slots of an earlier state -/
theorem Rel.back {ρ' : List S} {σ' : L2.St} {cs0 : Store} (r0 : Rel B ca ρ' cs0 Hf σ' H) (x : Nx ca Hf ca' Hf') (r : Rel B ca' ρ cs' Hf' σ H') : Rel B ca' ρ' cs' Hf' σ' H' :=
  r.slots r0.len fun i s e => by
    rcases r0.sl i s e with z | ⟨v, h1, h2⟩
    · exact .inl z
    · exact .inr ⟨v, h1, h2.nx x⟩
theorem Rel.get (r : Rel B ca ρ cs Hf σ H) {i : Nat} {s : S} (e : ρ[i]? = some s) (n : s ≠ .no) : ∃ v, σ[i]? = some (some v) ∧ SvOk ca Hf s v := by
  rcases r.sl i s e with z | z
  · exact absurd z n
  · exact z
theorem Rel.set (r : Rel B ca ρ cs Hf σ H) (i : Nat) (h : SvOk ca Hf s v) : Rel B ca (ρ.set i s) cs Hf (σ.set i (some v)) H :=
  r.slots (by simp [r.len]) fun j t e => by
    by_cases hj : i = j
    · subst hj
      by_cases hi : i < ρ.length
      · rw [List.getElem?_set_self hi] at e
        cases e
        exact .inr ⟨v, List.getElem?_set_self (by rw [r.len]; exact hi), h⟩
      · rw [List.getElem?_eq_none (by simpa using hi)] at e; cases e
    · rw [List.getElem?_set_ne hj] at e
      rcases r.sl j t e with z | ⟨w, h1, h2⟩
      · exact .inl z
      · exact .inr ⟨w, by rw [List.getElem?_set_ne hj]; exact h1, h2⟩
/-- a slot forgotten -/
theorem Rel.lose (r : Rel B ca ρ cs Hf σ H) (i : Nat) (x : Option V) : Rel B ca (ρ.set i .no) cs Hf (σ.set i x) H :=
  r.slots (by simp [r.len]) fun j t e => by
    by_cases hj : i = j
    · subst hj
      by_cases hi : i < ρ.length
      · rw [List.getElem?_set_self hi] at e; cases e; exact .inl rfl
      · rw [List.getElem?_eq_none (by simpa using hi)] at e; cases e
    · rw [List.getElem?_set_ne hj] at e
      rcases r.sl j t e with z | ⟨w, h1, h2⟩
      · exact .inl z
      · exact .inr ⟨w, by rw [List.getElem?_set_ne hj]; exact h1, h2⟩
/-- an object of the heap is frozen -/
theorem Rel.freeze {o : HO} {p : Addr} (r : Rel B ca ρ cs Hf σ H) (hp : H p = some o) (n : Hf p = none) (hc : p ∉ ca) (hb : B p = none) : Rel B ca ρ cs (upd Hf p o) σ H ∧ Ex Hf (upd Hf p o) := by
  have e : Ex Hf (upd Hf p o) := fun a u h => by
    by_cases q : a = p
    · subst q; rw [n] at h; cases h
    · rw [upd_ne q]; exact h
  refine ⟨⟨fun a u h => ?_, r.len, fun i s q => ?_, fun j u q => ?_, r.lenc, r.nd, fun a m => ?_, r.exb, fun a m => ?_⟩, e⟩
  · by_cases q : a = p
    · subst q; rw [upd_same] at h; cases h; exact hp
    · rw [upd_ne q] at h; exact r.ext a u h
  · rcases r.sl i s q with z | ⟨v, h1, h2⟩
    · exact .inl z
    · exact .inr ⟨v, h1, h2.nx ⟨List.prefix_refl _, e⟩⟩
  · obtain ⟨a, h1, h2⟩ := r.cells j u q
    exact ⟨a, h1, h2.at rfl e⟩
  · rw [upd_ne (fun (z : a = p) => hc (z ▸ m))]; exact r.off a m
  · obtain ⟨h1, h2⟩ := r.dis a m
    exact ⟨by rw [upd_ne (fun (z : a = p) => m (z ▸ hb))]; exact h1, h2⟩
theorem Rel.newIn (r : Rel B ca ρ cs Hf σ H) {p : Addr} (hp : H p = none) : Hf p = none ∧ p ∉ ca ∧ B p = none := by
  refine ⟨?_, fun m => r.there m hp, ?_⟩
  · cases q : Hf p with
    | none => rfl
    | some u => rw [r.ext p u q] at hp; cases hp
  · cases q : B p with
    | none => rfl
    | some u => rw [r.exb p u q] at hp; cases hp
/-- the heap grows -/
theorem Rel.grow (r : Rel B ca ρ cs Hf σ H) (e : Ex H H') : Rel B ca ρ cs Hf σ H' :=
  ⟨fun a u h => e a u (r.ext a u h), r.len, r.sl, fun j u q => by
    obtain ⟨a, h1, h2⟩ := r.cells j u q
    refine ⟨a, h1, h2.at ?_ fun _ _ h => h⟩
    cases z : H a with
    | none => exact absurd z h2.some
    | some w => exact e a w z, r.lenc, r.nd, r.off, fun a u h => e a u (r.exb a u h), r.dis⟩
theorem ex_new {o : HO} {p : Addr} (hp : H p = none) : Ex H (upd H p o) := fun a u h => by rw [upd_ne (ne_of_none h hp)]; exact h
/-- a new object, frozen -/
theorem Rel.news {o : HO} {p : Addr} (r : Rel B ca ρ cs Hf σ H) (hp : H p = none) : Rel B ca ρ cs (upd Hf p o) σ (upd H p o) ∧ Nx ca Hf ca (upd Hf p o) := by
  obtain ⟨n1, n2, n3⟩ := r.newIn hp
  obtain ⟨r2, e2⟩ := (r.grow (ex_new (o := o) hp)).freeze (p := p) (o := o) upd_same n1 n2 n3
  exact ⟨r2, List.prefix_refl _, e2⟩
/-- an own object is frozen -/
theorem Rel.own {xs : List D} (r : Rel B ca ρ cs Hf σ H) (h : RvOk B ca Hf H (.own (.lst xs)) v) : ∃ Hf', Rel B ca ρ cs Hf' σ H ∧ Nx ca Hf ca Hf' ∧ Dd Hf' v (.list xs) := by
  obtain ⟨a, rfl, ⟨vs, h1, h2⟩, h3, h4, h5⟩ := h
  obtain ⟨r', e⟩ := r.freeze h1 h3 h4 h5
  exact ⟨_, r', ⟨List.prefix_refl _, e⟩, .lst (.inl upd_same) (dps_ex e h2)⟩
/-- an own object becomes a cell -/
theorem Rel.alloc (r : Rel B ca ρ cs Hf σ H) (h : RvOk B ca Hf H (.own o) v) : ∃ a, v = .ref a ∧ Rel B (ca ++ [a]) ρ (cs ++ [o]) Hf σ H ∧ (ca ++ [a])[cs.length]? = some a := by
  obtain ⟨a, rfl, h1, h2, h3, h4⟩ := h
  refine ⟨a, rfl, ⟨r.ext, r.len, fun i s q => ?_, fun j u q => ?_, by simp [r.lenc], ?_, fun b m => ?_, r.exb, fun b m => ?_⟩, by rw [← r.lenc]; simp⟩
  · rcases r.sl i s q with z | ⟨v, g1, g2⟩
    · exact .inl z
    · exact .inr ⟨v, g1, g2.nx ⟨List.prefix_append _ _, fun _ _ h => h⟩⟩
  · by_cases hj : j < cs.length
    · rw [List.getElem?_append_left hj] at q
      obtain ⟨b, g1, g2⟩ := r.cells j u q
      exact ⟨b, by rw [List.getElem?_append_left (by rw [r.lenc]; exact hj)]; exact g1, g2⟩
    · have hj2 : j = cs.length := by
        have := (List.getElem?_eq_some_iff.mp q).1
        simp at this; omega
      subst hj2
      simp at q; subst q
      exact ⟨a, by rw [← r.lenc]; simp, h1⟩
  · rw [List.nodup_append]
    refine ⟨r.nd, by simp, fun x hx y hy => ?_⟩
    simp at hy; subst hy
    exact fun z => h3 (z ▸ hx)
  · rcases List.mem_append.mp m with z | z
    · exact r.off b z
    · simp at z; subst z; exact h2
  · obtain ⟨g1, g2⟩ := r.dis b m
    refine ⟨g1, fun q => ?_⟩
    rcases List.mem_append.mp q with z | z
    · exact g2 z
    · simp at z; subst z; exact m h4
/-- a cell is written -/
theorem Rel.write {j : Nat} {u : HO} (r : Rel B ca ρ cs Hf σ H) (hj : ca[j]? = some a) (h : CellOk Hf (upd H a u) a o) : Rel B ca ρ (cs.set j o) Hf σ (upd H a u) := by
  have ma : a ∈ ca := List.mem_of_getElem? hj
  refine ⟨fun b w q => ?_, r.len, r.sl, fun i w q => ?_, by simp [r.lenc], r.nd, r.off, fun b w q => ?_, r.dis⟩
  · by_cases e : b = a
    · subst e; rw [r.off b ma] at q; cases q
    · rw [upd_ne e]; exact r.ext b w q
  · by_cases e : j = i
    · subst e
      have hi : j < cs.length := by rw [← r.lenc]; exact (List.getElem?_eq_some_iff.mp hj).1
      rw [List.getElem?_set_self hi] at q
      cases q
      exact ⟨a, hj, h⟩
    · rw [List.getElem?_set_ne e] at q
      obtain ⟨b, g1, g2⟩ := r.cells i w q
      refine ⟨b, g1, g2.at (upd_ne ?_) fun _ _ h => h⟩
      intro z
      subst z
      exact e (nd_ix r.nd hj g1)
  · by_cases e : b = a
    · subst e
      exact absurd ma (r.dis b (by rw [q]; simp)).2
    · rw [upd_ne e]; exact r.exb b w q
theorem Rel.cell (r : Rel B ca ρ cs Hf σ H) {j : Nat} (e : cs[j]? = some o) (h : ca[j]? = some a) : CellOk Hf H a o := by
  obtain ⟨b, g1, g2⟩ := r.cells j o e
  rw [h] at g1; cases g1; exact g2
end

/-! ### what is wanted of an expression's result -/
section
variable (X : Cx) (W : WX)
def Gs {α : Type} (B : Hp) (ca : List Addr) (Hf : Hp) (ρ : List S) (σ : L2.St) (res : Res α) (P : List Addr → Hp → Hp → Store → α → Prop) : Prop :=
  match res with
  | .ok a cs' => ∀ ca' Hf' H', Nx ca Hf ca' Hf' → Rel B ca' ρ cs' Hf' σ H' → P ca' Hf' H' cs' a
  | .er c cs' => ∀ ca' Hf' H' cls, Nx ca Hf ca' Hf' → Rel B ca' ρ cs' Hf' σ H' → X.mg c = some cls → W cls none σ H'
  | .no => False
/-- an expression -/
def DE (e : Expr) (f : List S → M S) : Prop := ∃ t : TE, PE X e t ∧ ∀ (B : Hp) (ca : List Addr) (ρ : List S) (cs : Store) (Hf : Hp) (σ : L2.St) (H : Hp) (Q : VK), Rel B ca ρ cs Hf σ H →
  Gs X W B ca Hf ρ σ (f ρ cs) (fun ca' Hf' H' _ s => ∀ v, SvOk ca' Hf' s v → Q v H') → t σ H Q
/-- an expression whose value may be a new object -/
def DO (e : Expr) (f : List S → M Rv) : Prop := ∃ t : TE, PE X e t ∧ ∀ (B : Hp) (ca : List Addr) (ρ : List S) (cs : Store) (Hf : Hp) (σ : L2.St) (H : Hp) (Q : VK), Rel B ca ρ cs Hf σ H →
  Gs X W B ca Hf ρ σ (f ρ cs) (fun ca' Hf' H' _ r => ∀ v, RvOk B ca' Hf' H' r v → Q v H') → t σ H Q
def DT (e : Expr) (f : List S → M Bool) : Prop := ∃ t : TT, PT X e t ∧ ∀ (B : Hp) (ca : List Addr) (ρ : List S) (cs : Store) (Hf : Hp) (σ : L2.St) (H : Hp) (Q : Bool → Hp → Prop), Rel B ca ρ cs Hf σ H →
  Gs X W B ca Hf ρ σ (f ρ cs) (fun _ _ H' _ b => Q b H') → t σ H Q
def DW (e : Expr) (f : List S → M Bool) : Prop := ∃ t : TT, PW X e t ∧ ∀ (B : Hp) (ca : List Addr) (ρ : List S) (cs : Store) (Hf : Hp) (σ : L2.St) (H : Hp) (Q : Bool → Hp → Prop), Rel B ca ρ cs Hf σ H →
  Gs X W B ca Hf ρ σ (f ρ cs) (fun _ _ H' _ b => Q b H') → t σ H Q
def DA (es : List Expr) (f : List S → M (List S)) : Prop := ∃ t : TA, PA X es t ∧ ∀ (B : Hp) (ca : List Addr) (ρ : List S) (cs : Store) (Hf : Hp) (σ : L2.St) (H : Hp) (Q : List V → Hp → Prop), Rel B ca ρ cs Hf σ H →
  Gs X W B ca Hf ρ σ (f ρ cs) (fun ca' Hf' H' _ ss => ∀ vs, SvsOk ca' Hf' ss vs → Q vs H') → t σ H Q
end
section
variable {X : Cx} {W : WX} {B : Hp} {ca : List Addr} {Hf H : Hp} {ρ : List S} {σ : L2.St} {cs : Store} {α β : Type} {P P' : List Addr → Hp → Hp → Store → α → Prop}
theorem Gs.mono {res : Res α} (h : Gs X W B ca Hf ρ σ res P) (m : ∀ ca' Hf' H' cs' a, Nx ca Hf ca' Hf' → Rel B ca' ρ cs' Hf' σ H' → P ca' Hf' H' cs' a → P' ca' Hf' H' cs' a) : Gs X W B ca Hf ρ σ res P' := by
  cases res with
  | ok a cs' => exact fun ca' Hf' H' n r => m _ _ _ _ _ n r (h ca' Hf' H' n r)
  | er c cs' => exact h
  | no => exact h
theorem Gs.fwd {res : Res α} {ca1 : List Addr} {Hf1 : Hp} (h : Gs X W B ca Hf ρ σ res P) (n : Nx ca Hf ca1 Hf1) : Gs X W B ca1 Hf1 ρ σ res P := by
  cases res with
  | ok a cs' => exact fun ca' Hf' H' n' r => h ca' Hf' H' (n.trans n') r
  | er c cs' => exact fun ca' Hf' H' cls n' r => h ca' Hf' H' cls (n.trans n') r
  | no => exact h
theorem Gs.bind {m : M α} {k : α → M β} {P : List Addr → Hp → Hp → Store → β → Prop} (h : Gs X W B ca Hf ρ σ (bnd m k cs) P) :
    Gs X W B ca Hf ρ σ (m cs) (fun ca1 Hf1 _ cs1 a => Gs X W B ca1 Hf1 ρ σ (k a cs1) P) := by
  unfold bnd at h
  cases e : m cs with
  | ok a cs1 => rw [e] at h; exact fun ca1 Hf1 H1 n r => Gs.fwd h n
  | er c cs1 => rw [e] at h; exact h
  | no => rw [e] at h; exact h
theorem Gs.ret_ {a : α} (h : Gs X W B ca Hf ρ σ (ret a cs) P) (r : Rel B ca ρ cs Hf σ H) : P ca Hf H cs a := h ca Hf H Nx.refl r
theorem Gs.ofO_ {o : Option α} (h : Gs X W B ca Hf ρ σ (ofO o cs) P) (r : Rel B ca ρ cs Hf σ H) : ∃ a, o = some a ∧ P ca Hf H cs a := by
  cases o with
  | none => exact h.elim
  | some a => exact ⟨a, rfl, h ca Hf H Nx.refl r⟩
end
end Dn

set_option Elab.async false
set_option linter.all false
set_option maxRecDepth 100000
set_option maxHeartbeats 1000000
/-! Dn2: expressions. -/
namespace Dn
open PySem L2

/-! ### views of operands -/
def Lv (Hf H : Hp) (v : V) (d : D) : Prop := Dd H v d ∧ match d with
  | .list xs => ∃ a vs, v = .ref a ∧ Rd H a (.lst vs) ∧ Dds Hf vs xs
  | .tuple xs => (∃ a vs, v = .ref a ∧ Rd H a (.tup vs) ∧ Dds Hf vs xs) ∧ Dd Hf v d
  | _ => Dd Hf v d
def vw : S → Store → Option D
  | .d x, _ => some x
  | .cel j, cs => match cs[j]? with
    | some (.lst xs) => some (.list xs)
    | _ => none
  | _, _ => none
def vwM (s : S) : M D := fun cs => match vw s cs with
  | some d => .ok d cs
  | none => .no
section
variable {B : Hp} {ca ca' : List Addr} {ρ : List S} {cs : Store} {Hf Hf' : Hp} {σ : L2.St} {H H' : Hp} {s : S} {v w : V} {d : D} {o : OC}
theorem Lv.of (e : Ex Hf H) (h : Dd Hf v d) : Lv Hf H v d := by
  refine ⟨dp_ex e h, ?_⟩
  cases h with
  | lst h a => exact ⟨_, _, rfl, rd_ex e h, a⟩
  | tup h a => exact ⟨⟨_, _, rfl, rd_ex e h, a⟩, .tup h a⟩
  | non => exact .non
  | bl b => exact .bl b
  | int i => exact .int i
  | str x => exact .str x
theorem vw_ok (r : Rel B ca ρ cs Hf σ H) (h : SvOk ca Hf s v) (e : vw s cs = some d) : Lv Hf H v d := by
  cases s with
  | no => exact h.elim
  | fn a => cases e
  | d x =>
    have : x = d := Option.some.inj e
    subst this
    exact Lv.of r.ext h
  | cel j =>
    obtain ⟨a, h1, rfl⟩ := h
    have e' : (match cs[j]? with
      | some (.lst xs) => some (.list xs)
      | _ => none) = some d := e
    split at e'
    · rename_i xs q
      cases e'
      obtain ⟨vs, g1, g2⟩ := r.cell q h1
      exact ⟨.lst (.inl g1) (dps_ex r.ext g2), a, vs, rfl, .inl g1, g2⟩
    · cases e'
theorem Lv.flat (h : Lv Hf H v d) (n : ∀ xs, d ≠ .list xs) : Dd Hf v d := by
  obtain ⟨_, h⟩ := h
  cases d with
  | list xs => exact absurd rfl (n xs)
  | tuple xs => exact h.2
  | _ => exact h
theorem Lv.lst {xs : List D} (h : Lv Hf H v (.list xs)) : ∃ a vs, v = .ref a ∧ Rd H a (.lst vs) ∧ Dds Hf vs xs := h.2
theorem Lv.tup {xs : List D} (h : Lv Hf H v (.tuple xs)) : ∃ a vs, v = .ref a ∧ Rd H a (.tup vs) ∧ Dds Hf vs xs := h.2.1
theorem Lv.int_ {i : Int} (h : Lv Hf H v (.int i)) : v = .int i := by cases h.1; rfl
theorem Lv.str_ {x : Str} (h : Lv Hf H v (.str x)) : v = .str x := by cases h.1; rfl
theorem Lv.bl_ {x : Bool} (h : Lv Hf H v (.bool x)) : v = .bl x := by cases h.1; rfl
theorem Lv.non_ (h : Lv Hf H v .none) : v = .non := by cases h.1; rfl

/-- the heap grows by frozen things -/
structure Gw (Hf H Hf' H' : Hp) : Prop where
  ex : Ex Hf Hf'
  kp : Ex H H'
  ext : Ex Hf' H'
  nhf : ∀ a, Hf' a ≠ none → Hf a ≠ none ∨ H a = none
theorem Gw.refl (e : Ex Hf H) : Gw Hf H Hf H := ⟨fun _ _ h => h, fun _ _ h => h, e, fun _ h => .inl h⟩
theorem Gw.new {o : HO} {p : Addr} (e : Ex Hf H) (hp : H p = none) : Gw Hf H (upd Hf p o) (upd H p o) := by
  have nf : Hf p = none := by
    cases q : Hf p with
    | none => rfl
    | some u => rw [e p u q] at hp; cases hp
  refine ⟨ex_new nf, ex_new hp, fun a u h => ?_, fun a h => ?_⟩
  · by_cases q : a = p
    · subst q; rw [upd_same] at h ⊢; exact h
    · rw [upd_ne q] at h ⊢; exact e a u h
  · by_cases q : a = p
    · exact .inr (q ▸ hp)
    · rw [upd_ne q] at h; exact .inl h
theorem Rel.gw (r : Rel B ca ρ cs Hf σ H) (g : Gw Hf H Hf' H') : Rel B ca ρ cs Hf' σ H' ∧ Nx ca Hf ca Hf' := by
  have n : Nx ca Hf ca Hf' := ⟨List.prefix_refl _, g.ex⟩
  have no : ∀ a, H a ≠ none → Hf a = none → Hf' a = none := fun a h1 h2 => by
    cases q : Hf' a with
    | none => rfl
    | some u =>
      rcases g.nhf a (by rw [q]; simp) with z | z
      · exact absurd h2 z
      · exact absurd z h1
  refine ⟨⟨g.ext, r.len, fun i s q => ?_, fun j u q => ?_, r.lenc, r.nd, fun a m => no a (r.there m) (r.off a m), fun a u h => g.kp a u (r.exb a u h), fun a m => ?_⟩, n⟩
  · rcases r.sl i s q with z | ⟨v, h1, h2⟩
    · exact .inl z
    · exact .inr ⟨v, h1, h2.nx n⟩
  · obtain ⟨a, h1, h2⟩ := (r.grow g.kp).cells j u q
    exact ⟨a, h1, h2.at rfl g.ex⟩
  · obtain ⟨h1, h2⟩ := r.dis a m
    refine ⟨no a ?_ h1, h2⟩
    cases q : B a with
    | none => exact absurd q m
    | some u => rw [r.exb a u q]; simp
end

/-! ### operators over data -/
def rD (g : D → D → Option D) : R2 := fun x y H Q => ∃ Hf da db d, g da db = some d ∧ Ex Hf H ∧ Lv Hf H x da ∧ Lv Hf H y db ∧ ∀ v Hf' H', Gw Hf H Hf' H' → Dd Hf' v d → Q v H'
def rDb (g : D → D → Option Bool) : R2 := fun x y H Q => ∃ Hf da db b, g da db = some b ∧ Ex Hf H ∧ Lv Hf H x da ∧ Lv Hf H y db ∧ Q (.bl b) H
def addD : D → D → Option D
  | .int i, .int j => some (.int (i + j))
  | .str x, .str y => if x.length + y.length ≤ sizeLine then some (.str (x ++ y)) else none
  | .tuple xs, .tuple ys => if xs.length + ys.length ≤ sizeLine then some (.tuple (xs ++ ys)) else none
  | .list xs, .list ys => if xs.length + ys.length ≤ sizeLine then some (.list (xs ++ ys)) else none
  | _, _ => none
def subD : D → D → Option D
  | .int i, .int j => some (.int (i - j))
  | _, _ => none
def mulD : D → D → Option D
  | .int i, .int j => if i.natAbs.log2 + j.natAbs.log2 < 1000000 then some (.int (i * j)) else none
  | _, _ => none
def fdivD : D → D → Option D
  | .int i, .int j => if 0 < j ∧ j.natAbs.log2 < 9000 then some (.int (i / j)) else none
  | _, _ => none
def modD : D → D → Option D
  | .int i, .int j => if 0 < j then some (.int (i % j)) else none
  | _, _ => none
def powD : D → D → Option D
  | .int i, .int j => if 0 ≤ j ∧ j ≤ 1000000 ∧ i.natAbs < 2 ^ 64 then some (.int (i ^ j.toNat)) else none
  | _, _ => none
def scalD : D → D → Bool
  | .none, .none => true | .none, .int _ => true | .int _, .none => true | .none, .bool _ => true | .bool _, .none => true | .none, .str _ => true | .str _, .none => true
  | .int _, .int _ => true | .bool _, .bool _ => true | .str _, .str _ => true
  | .int _, .str _ => true | .str _, .int _ => true | .bool _, .str _ => true | .str _, .bool _ => true
  | _, _ => false
def eqD (a b : D) : Option Bool := if scalD a b || (SeqAt.shaped a && SeqAt.shaped b) then some (PyData.eqv a b) else none
def neD (a b : D) : Option Bool := (eqD a b).map (!·)
def ltD : D → D → Option Bool
  | .int i, .int j => some (decide (i < j))
  | .str x, .str y => some (decide (x.cps.toList < y.cps.toList))
  | _, _ => none
def leD : D → D → Option Bool
  | .int i, .int j => some (decide (i ≤ j))
  | _, _ => none
def gtD : D → D → Option Bool
  | .int i, .int j => some (decide (j < i))
  | _, _ => none
def geD : D → D → Option Bool
  | .int i, .int j => some (decide (j ≤ i))
  | _, _ => none
def flatD : D → Bool
  | .none => true | .bool _ => true | .int _ => true | .str _ => true
  | _ => false
def inD (x : D) : D → Option Bool
  | .list ys => if flatD x && ys.all flatD || (SeqAt.shaped x && SeqAt.shaped (.list ys)) then some (ys.any fun y => PyData.eqv y x) else none
  | .tuple ys => if flatD x && ys.all flatD then some (ys.any fun y => PyData.eqv y x) else none
  | .str z => match x with
    | .str c => if c.length = 1 then some (decide (c.cps.getD 0 0 ∈ z.cps.toList)) else none
    | _ => none
  | _ => none
def ninD (x ys : D) : Option Bool := (inD x ys).map (!·)
def isnD : D → Option Bool
  | .none => some true
  | _ => some false
def lenD : D → Option Nat
  | .str x => if x.length ≤ sizeLine then some x.length else none
  | .list xs => some xs.length
  | .tuple xs => some xs.length
  | _ => none
def ixD : D → D → Option D
  | .list xs, .int i => atI xs i
  | .tuple xs, .int i => atI xs i
  | .str z, .int i => if z.length ≤ sizeLine then (atI z.cps.toList i).map fun c => .str ⟨#[c]⟩ else none
  | _, _ => none
def truD : D → Option Bool
  | .none => some false
  | .bool b => some b
  | .int i => some (i != 0)
  | .str x => if x.length ≤ sizeLine then some (x.length != 0) else none
  | .list xs => some (!xs.isEmpty)
  | .tuple xs => some (!xs.isEmpty)
  | .dict _ => none
def cutD (xs : List D) (lo hi : Option Int) : List D := (xs.drop (HT.sIx xs.length 0 lo)).take (HT.sIx xs.length xs.length hi - HT.sIx xs.length 0 lo)
/-- the types' names -/
def tyD : D → String
  | .none => "NoneType" | .bool _ => "bool" | .int _ => "int" | .str _ => "str" | .list _ => "list" | .tuple _ => "tuple" | .dict _ => "dict"
def isaD (T : String) : D → Bool
  | .none => T == "NoneType" | .bool _ => T == "bool" || T == "int" | .int _ => T == "int" | .str _ => T == "str" | .list _ => T == "list" | .tuple _ => T == "tuple" | .dict _ => T == "dict"

section
variable {X : Cx} {pins : List (Addr × Obj)} {σ : L2.St} {H Hf Hf' : Hp} {s : Shared} {l b : Addr} {xs ys zs : List V} {v : V} {d : D} {ds : List D}
theorem Inv.rdl (I : Inv X pins σ H s) (h : Rd H l (.lst xs)) : xs.length ≤ sizeLine ∧ ∃ (its : List Value) (n : Nat), Vals xs its ∧ xs.length = its.length ∧ s.heap.get? l = some { cls := .type "list", data := .seq its.toArray n } := by
  obtain ⟨z, its, n, r, e⟩ := h.ok I.hok
  exact ⟨z, its, n, r, r.length, e⟩
theorem add_ok : OpR X (binaryOp .Add) (rD addD) := by
  intro pins s σ H x y v u Q I rx ry h
  obtain ⟨Hf, da, db, d, e, ex, ha, hb, q⟩ := h
  unfold addD at e
  split at e
  · cases e
    have := ha.int_; subst this
    have := hb.int_; subst this
    exact op_add pins s σ H _ _ v u Q I rx ry ⟨_, _, rfl, rfl, q _ _ _ (Gw.refl ex) (.int _)⟩
  · split at e
    · cases e
      have := ha.str_; subst this
      have := hb.str_; subst this
      exact op_add_str pins s σ H _ _ v u Q I rx ry ⟨_, _, rfl, rfl, by assumption, q _ _ _ (Gw.refl ex) (.str _)⟩
    · cases e
  · rename_i ds es
    split at e
    · rename_i hz
      cases e
      obtain ⟨a, vs, rfl, h1, h2⟩ := ha.tup
      obtain ⟨a', vs', rfl, h1', h2'⟩ := hb.tup
      have l1 := dps_len h2
      have l2 := dps_len h2'
      refine op_catA pins s σ H _ _ v u Q I rx ry ⟨a, a', vs, vs', rfl, rfl, .inl h1, .inl h1', by omega, fun z => ?_, fun z z' => ?_, fun z z' p hp => ?_⟩
      · have : ds = [] := by rw [z] at l1; exact List.length_eq_zero_iff.mp l1.symm
        subst this
        exact q _ _ _ (Gw.refl ex) (hb.flat fun _ z => nomatch z)
      · have : es = [] := by rw [z'] at l2; exact List.length_eq_zero_iff.mp l2.symm
        subst this
        rw [List.append_nil] at q
        exact q _ _ _ (Gw.refl ex) (ha.flat fun _ z => nomatch z)
      · have g := Gw.new (o := .tup (vs ++ vs')) ex hp
        exact q _ _ _ g (.tup (.inl upd_same) (dps_ex g.ex (dps_app h2 h2')))
    · cases e
  · rename_i ds es
    split at e
    · rename_i hz
      cases e
      obtain ⟨a, vs, rfl, h1, h2⟩ := ha.lst
      obtain ⟨a', vs', rfl, h1', h2'⟩ := hb.lst
      cases rx
      cases ry
      have l1 := dps_len h2
      have l2 := dps_len h2'
      obtain ⟨z, its, n, r, hl, e⟩ := Inv.rdl I h1
      obtain ⟨z2, its2, n2, r2, hl2, e2⟩ := Inv.rdl I h1'
      refine PySem.P.add_list e e2 ?_ (by rw [List.size_toArray, List.size_toArray]; omega)
      have ea : its.toArray ++ its2.toArray = (its ++ its2).toArray := by simp
      rw [ea]
      have g := Gw.new (o := .lst (vs ++ vs')) ex I.fresh
      exact ⟨.ref _, _, I.lnew (t' := s.toks) (r.append r2) (by rw [List.length_append]; omega), rfl, q _ _ _ g (.lst (.inl upd_same) (dps_ex g.ex (dps_app h2 h2')))⟩
    · cases e
  · cases e
theorem sub_ok : OpR X (binaryOp .Sub) (rD subD) := by
  intro pins s σ H x y v u Q I rx ry h
  obtain ⟨Hf, da, db, d, e, ex, ha, hb, q⟩ := h
  unfold subD at e
  split at e
  · cases e
    have := ha.int_; subst this
    have := hb.int_; subst this
    exact op_sub pins s σ H _ _ v u Q I rx ry ⟨_, _, rfl, rfl, q _ _ _ (Gw.refl ex) (.int _)⟩
  · cases e
theorem mul_ok : OpR X (binaryOp .Mult) (rD mulD) := by
  intro pins s σ H x y v u Q I rx ry h
  obtain ⟨Hf, da, db, d, e, ex, ha, hb, q⟩ := h
  unfold mulD at e
  split at e
  · split at e
    · cases e
      have := ha.int_; subst this
      have := hb.int_; subst this
      exact op_mulW pins s σ H _ _ v u Q I rx ry ⟨_, _, rfl, rfl, by assumption, q _ _ _ (Gw.refl ex) (.int _)⟩
    · cases e
  · cases e
theorem fdiv_ok : OpR X (binaryOp .FloorDiv) (rD fdivD) := by
  intro pins s σ H x y v u Q I rx ry h
  obtain ⟨Hf, da, db, d, e, ex, ha, hb, q⟩ := h
  unfold fdivD at e
  split at e
  · split at e
    · cases e
      have := ha.int_; subst this
      have := hb.int_; subst this
      exact op_fdivW pins s σ H _ _ v u Q I rx ry ⟨_, _, rfl, rfl, by assumption, q _ _ _ (Gw.refl ex) (.int _)⟩
    · cases e
  · cases e
theorem mod_ok : OpR X (binaryOp .Mod) (rD modD) := by
  intro pins s σ H x y v u Q I rx ry h
  obtain ⟨Hf, da, db, d, e, ex, ha, hb, q⟩ := h
  unfold modD at e
  split at e
  · split at e
    · cases e
      have := ha.int_; subst this
      have := hb.int_; subst this
      exact op_mod pins s σ H _ _ v u Q I rx ry ⟨_, _, rfl, rfl, by assumption, q _ _ _ (Gw.refl ex) (.int _)⟩
    · cases e
  · cases e
theorem pow_ok : OpR X (binaryOp .Pow) (rD powD) := by
  intro pins s σ H x y v u Q I rx ry h
  obtain ⟨Hf, da, db, d, e, ex, ha, hb, q⟩ := h
  unfold powD at e
  split at e
  · split at e
    · cases e
      have := ha.int_; subst this
      have := hb.int_; subst this
      exact op_pow pins s σ H _ _ v u Q I rx ry ⟨_, _, rfl, rfl, by assumption, q _ _ _ (Gw.refl ex) (.int _)⟩
    · cases e
  · cases e

/-! ### comparisons -/
theorem scal_eq {x y : V} {da db : D} (h : scalD da db = true) (ha : Dd H x da) (hb : Dd H y db) : scal x y = true ∧ decide (x = y) = PyData.eqv da db := by
  cases ha <;> cases hb <;> first
    | (exact absurd (show false = true from h) Bool.false_ne_true)
    | (refine ⟨rfl, ?_⟩; rw [PyData.eqv]; first | exact dec_int | exact dec_bl | exact dec_str)
    | (refine ⟨rfl, ?_⟩; simp [PyData.eqv]; done)
theorem eq_ok (hu : X.A.units + 64 < cLine) : OpR X (compareOp .Eq) (rDb eqD) := by
  intro pins s σ H x y v u Q I rx ry h
  obtain ⟨Hf, da, db, d, e, ex, ha, hb, q⟩ := h
  unfold eqD at e
  split at e
  · rename_i hs
    cases e
    by_cases hc : scalD da db = true
    · obtain ⟨s1, s2⟩ := scal_eq hc ha.1 hb.1
      exact op_eq pins s σ H x y v u Q I rx ry ⟨s1, by rw [s2]; exact q⟩
    · rw [Bool.or_eq_true, Bool.and_eq_true] at hs
      rcases hs with z | ⟨z1, z2⟩
      · exact absurd z hc
      · exact op_eqD hu pins s σ H x y v u Q I rx ry ⟨da, db, dd_dp _ ha.1, dd_dp _ hb.1, z1, z2, q⟩
  · cases e
theorem ne_ok (hu : X.A.units + 64 < cLine) : OpR X (compareOp .NotEq) (rDb neD) := by
  intro pins s σ H x y v u Q I rx ry h
  obtain ⟨Hf, da, db, d, e, ex, ha, hb, q⟩ := h
  unfold neD eqD at e
  split at e
  · rename_i hs
    cases e
    by_cases hc : scalD da db = true
    · obtain ⟨s1, s2⟩ := scal_eq hc ha.1 hb.1
      exact op_ne pins s σ H x y v u Q I rx ry ⟨s1, by rw [s2]; exact q⟩
    · rw [Bool.or_eq_true, Bool.and_eq_true] at hs
      rcases hs with z | ⟨z1, z2⟩
      · exact absurd z hc
      · exact op_neD hu pins s σ H x y v u Q I rx ry ⟨da, db, dd_dp _ ha.1, dd_dp _ hb.1, z1, z2, q⟩
  · cases e
theorem lt_ok : OpR X (compareOp .Lt) (rDb ltD) := by
  intro pins s σ H x y v u Q I rx ry h
  obtain ⟨Hf, da, db, d, e, ex, ha, hb, q⟩ := h
  unfold ltD at e
  split at e
  · cases e
    have := ha.int_; subst this
    have := hb.int_; subst this
    exact op_lt pins s σ H _ _ v u Q I rx ry ⟨_, _, rfl, rfl, q⟩
  · cases e
    have := ha.str_; subst this
    have := hb.str_; subst this
    exact op_lt_str pins s σ H _ _ v u Q I rx ry ⟨_, _, rfl, rfl, q⟩
  · cases e
theorem le_ok : OpR X (compareOp .LtE) (rDb leD) := by
  intro pins s σ H x y v u Q I rx ry h
  obtain ⟨Hf, da, db, d, e, ex, ha, hb, q⟩ := h
  unfold leD at e
  split at e
  · cases e
    have := ha.int_; subst this
    have := hb.int_; subst this
    exact op_le pins s σ H _ _ v u Q I rx ry ⟨_, _, rfl, rfl, q⟩
  · cases e
theorem gt_ok : OpR X (compareOp .Gt) (rDb gtD) := by
  intro pins s σ H x y v u Q I rx ry h
  obtain ⟨Hf, da, db, d, e, ex, ha, hb, q⟩ := h
  unfold gtD at e
  split at e
  · cases e
    have := ha.int_; subst this
    have := hb.int_; subst this
    exact op_gt pins s σ H _ _ v u Q I rx ry ⟨_, _, rfl, rfl, q⟩
  · cases e
theorem ge_ok : OpR X (compareOp .GtE) (rDb geD) := by
  intro pins s σ H x y v u Q I rx ry h
  obtain ⟨Hf, da, db, d, e, ex, ha, hb, q⟩ := h
  unfold geD at e
  split at e
  · cases e
    have := ha.int_; subst this
    have := hb.int_; subst this
    exact op_ge pins s σ H _ _ v u Q I rx ry ⟨_, _, rfl, rfl, q⟩
  · cases e
theorem flat_V (f : flatD d = true) (h : Dd H v d) : flatV v = true := by
  cases h <;> first | rfl | (exact absurd (show false = true from f) Bool.false_ne_true)
theorem eqV_eqv {x y : V} {da db : D} (fa : flatD da = true) (fb : flatD db = true) (ha : Dd H x da) (hb : Dd H y db) : eqV x y = PyData.eqv da db := by
  cases ha <;> cases hb <;> first
    | (exact absurd (show false = true from fa) Bool.false_ne_true)
    | (exact absurd (show false = true from fb) Bool.false_ne_true)
    | rfl
    | (unfold eqV; simp [PyData.eqv])
theorem flat_all : ∀ {xs : List V} {ds : List D}, ds.all flatD = true → Dds H xs ds → xs.all flatV = true
  | _, _, _, .nil => rfl
  | _, _, f, .cons h t => by
    rw [List.all_cons, Bool.and_eq_true] at f
    rw [List.all_cons, Bool.and_eq_true]
    exact ⟨flat_V f.1 h, flat_all f.2 t⟩
theorem inV_any {x : V} (fx : flatD d = true) (hx : Dd H x d) : ∀ {xs : List V} {ds : List D}, ds.all flatD = true → Dds H xs ds → inV x xs = ds.any fun y => PyData.eqv y d
  | _, _, _, .nil => rfl
  | _, _, f, .cons h t => by
    rw [List.all_cons, Bool.and_eq_true] at f
    have ih := inV_any fx hx f.2 t
    unfold inV at ih ⊢
    rw [List.any_cons, List.any_cons, ih, eqV_eqv f.1 fx h hx]
end
end Dn

set_option Elab.async false
set_option linter.all false
set_option maxRecDepth 100000
set_option maxHeartbeats 1000000
/-! Dn3: expressions' rules. -/
namespace Dn
open PySem L2
section
variable {X : Cx} {pins : List (Addr × Obj)} {σ : L2.St} {H Hf Hf' : Hp} {s : Shared} {v : V} {d : D}
theorem sign_of {c : Str} (h : c.length = 1) : c = ⟨#[c.cps.getD 0 0]⟩ := by
  obtain ⟨⟨l⟩⟩ := c
  match l, h with
  | [a], _ => rfl
  | [], h => exact absurd h (by decide)
  | a :: b :: r, h => exact absurd (show (a :: b :: r).length = 1 from h) (by simp)
theorem in_ok (hu : X.A.units + 65 < cLine) : OpR X (compareOp .In) (rDb inD) := by
  intro pins s σ H x y v u Q I rx ry h
  obtain ⟨Hf, da, db, d, e, ex, ha, hb, q⟩ := h
  unfold inD at e
  split at e
  · rename_i ys
    split at e
    · rename_i hs
      cases e
      obtain ⟨a, vs, rfl, h1, h2⟩ := hb.lst
      by_cases hf : (flatD da && ys.all flatD) = true
      · rw [Bool.and_eq_true] at hf
        have h2' := dps_ex ex h2
        refine op_in_seq pins s σ H _ _ v u Q I rx ry ⟨a, vs, rfl, .inl (.inl h1), flat_V hf.1 ha.1, flat_all hf.2 h2', ?_⟩
        show Q (.bl (inV x vs)) H
        rw [inV_any hf.1 ha.1 hf.2 h2']
        exact q
      · rw [Bool.or_eq_true] at hs
        rcases hs with z | z
        · exact absurd z hf
        · rw [Bool.and_eq_true] at z
          exact op_inD hu pins s σ H _ _ v u Q I rx ry ⟨da, ys, dd_dp _ ha.1, dd_dp _ hb.1, z.1, z.2, q⟩
    · cases e
  · rename_i ys
    split at e
    · rename_i hf
      cases e
      rw [Bool.and_eq_true] at hf
      obtain ⟨a, vs, rfl, h1, h2⟩ := hb.tup
      have h2' := dps_ex ex h2
      refine op_in_seq pins s σ H _ _ v u Q I rx ry ⟨a, vs, rfl, .inr (.inl h1), flat_V hf.1 ha.1, flat_all hf.2 h2', ?_⟩
      show Q (.bl (inV x vs)) H
      rw [inV_any hf.1 ha.1 hf.2 h2']
      exact q
    · cases e
  · split at e
    · rename_i c
      split at e
      · rename_i hc
        cases e
        have := ha.str_; subst this
        have := hb.str_; subst this
        exact op_in_sign pins s σ H _ _ v u Q I rx ry ⟨_, _, by rw [← sign_of hc], rfl, q⟩
      · cases e
    · cases e
  · cases e
theorem nin_ok (hu : X.A.units + 65 < cLine) : OpR X (compareOp .NotIn) (rDb ninD) := by
  intro pins s σ H x y v u Q I rx ry h
  obtain ⟨Hf, da, db, d, e, ex, ha, hb, q⟩ := h
  unfold ninD inD at e
  split at e
  · rename_i ys
    split at e
    · rename_i hs
      cases e
      obtain ⟨a, vs, rfl, h1, h2⟩ := hb.lst
      by_cases hf : (flatD da && ys.all flatD) = true
      · rw [Bool.and_eq_true] at hf
        have h2' := dps_ex ex h2
        refine op_notIn_seq pins s σ H _ _ v u Q I rx ry ⟨a, vs, rfl, .inl (.inl h1), flat_V hf.1 ha.1, flat_all hf.2 h2', ?_⟩
        show Q (.bl (!inV x vs)) H
        rw [inV_any hf.1 ha.1 hf.2 h2']
        exact q
      · rw [Bool.or_eq_true] at hs
        rcases hs with z | z
        · exact absurd z hf
        · rw [Bool.and_eq_true] at z
          exact op_notInD hu pins s σ H _ _ v u Q I rx ry ⟨da, ys, dd_dp _ ha.1, dd_dp _ hb.1, z.1, z.2, q⟩
    · cases e
  · rename_i ys
    split at e
    · rename_i hf
      cases e
      rw [Bool.and_eq_true] at hf
      obtain ⟨a, vs, rfl, h1, h2⟩ := hb.tup
      have h2' := dps_ex ex h2
      refine op_notIn_seq pins s σ H _ _ v u Q I rx ry ⟨a, vs, rfl, .inr (.inl h1), flat_V hf.1 ha.1, flat_all hf.2 h2', ?_⟩
      show Q (.bl (!inV x vs)) H
      rw [inV_any hf.1 ha.1 hf.2 h2']
      exact q
    · cases e
  · split at e
    · rename_i c
      split at e
      · rename_i hc
        cases e
        have := ha.str_; subst this
        have := hb.str_; subst this
        exact op_notIn_sign pins s σ H _ _ v u Q I rx ry ⟨_, _, by rw [← sign_of hc], rfl, q⟩
      · cases e
    · cases e
  · cases e
theorem ix_ok : IxR X (rD ixD) := by
  intro value slice pins s σ H x y v u Q I rx ry h hs
  obtain ⟨Hf, da, db, d, e, ex, ha, hb, q⟩ := h
  unfold ixD at e
  split at e
  · obtain ⟨a, vs, rfl, h1, h2⟩ := ha.lst
    have := hb.int_; subst this
    obtain ⟨j, g1, g2, g3, g4, g5⟩ := atI_get e
    obtain ⟨w, k1, k2⟩ := dps_get h2 g2
    refine ix_list value slice pins s σ H _ _ v u Q I rx ry ⟨a, vs, _, w, rfl, rfl, .inl h1, ?_, q _ _ _ (Gw.refl ex) k2⟩ hs
    unfold atI at e ⊢
    rw [dps_len h2]
    cases z : ixN _ _ with
    | none => rw [z] at e; cases e
    | some j' =>
      rw [z] at e
      have e' : _ = some d := e
      obtain ⟨hs', _⟩ := ixN_seq z
      rw [g1] at hs'; cases hs'
      exact k1
  · obtain ⟨a, vs, rfl, h1, h2⟩ := ha.tup
    have := hb.int_; subst this
    obtain ⟨j, g1, g2, g3, g4, g5⟩ := atI_get e
    obtain ⟨w, k1, k2⟩ := dps_get h2 g2
    refine ix_tup value slice pins s σ H _ _ v u Q I rx ry ⟨a, vs, _, w, rfl, rfl, .inl h1, ?_, q _ _ _ (Gw.refl ex) k2⟩ hs
    unfold atI at e ⊢
    rw [dps_len h2]
    cases z : ixN _ _ with
    | none => rw [z] at e; cases e
    | some j' =>
      rw [z] at e
      have e' : _ = some d := e
      obtain ⟨hs', _⟩ := ixN_seq z
      rw [g1] at hs'; cases hs'
      exact k1
  · split at e
    · rename_i hz
      have := ha.str_; subst this
      have := hb.int_; subst this
      cases z : atI _ _ with
      | none => rw [z] at e; cases e
      | some c =>
        rw [z] at e
        cases e
        exact ix_str value slice pins s σ H _ _ v u Q I rx ry ⟨_, _, c, rfl, rfl, hz, z, q _ _ _ (Gw.refl ex) (.str _)⟩ hs
    · cases e
  · cases e
/-- xs[lo:hi] -/
def slD (d : D) (lo hi : Option Int) : Option D := match d with
  | .list xs => some (.list (cutD xs lo hi))
  | .tuple xs => some (.tuple (cutD xs lo hi))
  | _ => none
theorem cut_dds {xs : List D} {vs : List V} (h : Dds Hf vs xs) (lo hi : Option Int) : Dds Hf (cutV vs lo hi) (cutD xs lo hi) := by
  unfold cutV cutD
  rw [dps_len h]
  exact dps_take _ (dps_drop _ h)
def rSl (x : V) (lo hi : Option Int) (H : Hp) (Q : VK) : Prop := ∃ Hf d e, slD d lo hi = some e ∧ Ex Hf H ∧ Lv Hf H x d ∧ ∀ v Hf' H', Gw Hf H Hf' H' → Dd Hf' v e → Q v H'
theorem sl_ok : SlR X rSl := by
  intro pins s σ H x v vl vu lo hi sl Q I rx hs pl pu h
  obtain ⟨Hf, d, e, he, ex, hx, q⟩ := h
  unfold slD at he
  split at he
  · rename_i xs
    cases he
    obtain ⟨a, vs, rfl, h1, h2⟩ := hx.lst
    refine sl_list pins s σ H _ v vl vu lo hi sl Q I rx hs pl pu ⟨a, vs, rfl, .inl h1, fun p hp => ?_⟩
    have g := Gw.new (o := .lst (cutV vs lo hi)) ex hp
    exact q _ _ _ g (.lst (.inl upd_same) (dps_ex g.ex (cut_dds h2 lo hi)))
  · rename_i xs
    cases he
    obtain ⟨a, vs, rfl, h1, h2⟩ := hx.tup
    refine sl_tupA pins s σ H _ v vl vu lo hi sl Q I rx hs pl pu ⟨a, vs, rfl, .inl h1, fun z => ?_, fun z p hp => ?_⟩
    · rw [dps_len h2] at z
      have : cutD xs lo hi = xs := by
        unfold cutD
        rw [z.1, z.2, List.drop_zero, Nat.sub_zero, List.take_length]
      rw [this] at q
      exact q _ _ _ (Gw.refl ex) (hx.flat fun _ z => nomatch z)
    · have g := Gw.new (o := .tup (cutV vs lo hi)) ex hp
      exact q _ _ _ g (.tup (.inl upd_same) (dps_ex g.ex (cut_dds h2 lo hi)))
  · cases he
theorem tru_dd {K : PySem.W.Frag} {b : Bool} (h : Dd H v d) (e : truD d = some b) : TruV K v H b := by
  cases h with
  | non => cases e; rfl
  | bl x => cases e; rfl
  | int i => cases e; rfl
  | str x =>
    have e' : (if x.length ≤ sizeLine then some (x.length != 0) else none) = some b := e
    split at e'
    · rename_i hz
      cases e'
      refine ⟨hz, ?_⟩
      rw [Bool.eq_iff_iff]
      simp
    · cases e'
  | lst h a =>
    cases e
    refine .inl ⟨_, .inl h, ?_⟩
    cases a <;> rfl
  | tup h a =>
    cases e
    refine .inr (.inl ⟨_, .inl h, ?_⟩)
    cases a <;> rfl
theorem ty_dd {K : PySem.W.Frag} (h : Dd H v d) : TyX K H v (.type (tyD d)) := by
  cases h with
  | non => exact .base .non
  | bl x => exact .base (.bl x)
  | int i => exact .base (.int i)
  | str x => exact .base (.str x)
  | lst h a =>
    rcases h with h | ⟨o, h⟩
    · exact .base (.lst h)
    · exact .base (.frz h)
  | tup h a =>
    rcases h with h | ⟨o, h⟩
    · exact .base (.tup h)
    · exact .fTuple h
end

/-! ### the mirrors of expressions -/
def eV (i : Nat) (ρ : List S) : M S := match ρ[i]? with
  | some (.d x) => ret (.d x)
  | some (.cel j) => ret (.cel j)
  | some (.fn a) => ret (.fn a)
  | _ => stuck
def eFn (a : Addr) (_ : List S) : M S := ret (.fn a)
def eC (d : D) (_ : List S) : M S := ret (.d d)
def op2 {β : Type} (g : D → D → Option β) (fa fb : List S → M S) (ρ : List S) : M β := bnd (fa ρ) fun a => bnd (fb ρ) fun b => bnd (vwM a) fun x => bnd (vwM b) fun y => ofO (g x y)
def op1 {β : Type} (g : D → Option β) (fa : List S → M S) (ρ : List S) : M β := bnd (fa ρ) fun a => bnd (vwM a) fun x => ofO (g x)
def eBin (g : D → D → Option D) (fa fb : List S → M S) (ρ : List S) : M S := bnd (op2 g fa fb ρ) fun d => ret (.d d)
def eCmp (g : D → D → Option Bool) (fa fb : List S → M S) (ρ : List S) : M S := bnd (op2 g fa fb ρ) fun b => ret (.d (.bool b))
def eIsN (fa : List S → M S) (ρ : List S) : M S := bnd (op1 isnD fa ρ) fun b => ret (.d (.bool b))
def eIsNN (fa : List S → M S) (ρ : List S) : M S := bnd (op1 isnD fa ρ) fun b => ret (.d (.bool (!b)))
def tT (fa : List S → M S) (ρ : List S) : M Bool := op1 truD fa ρ
def tNotM (f : List S → M Bool) (ρ : List S) : M Bool := bnd (f ρ) fun b => ret (!b)
def tAndM (f g : List S → M Bool) (ρ : List S) : M Bool := bnd (f ρ) fun b => if b = true then g ρ else ret false
def tOrM (f g : List S → M Bool) (ρ : List S) : M Bool := bnd (f ρ) fun b => if b = true then ret true else g ρ
def eAndM (f g : List S → M S) (ρ : List S) : M S := bnd (f ρ) fun a => bnd (vwM a) fun x => bnd (ofO (truD x)) fun b => if b = true then g ρ else ret a
def eOrM (f g : List S → M S) (ρ : List S) : M S := bnd (f ρ) fun a => bnd (vwM a) fun x => bnd (ofO (truD x)) fun b => if b = true then ret a else g ρ
def eNotM (f : List S → M S) (ρ : List S) : M S := bnd (op1 truD f ρ) fun b => ret (.d (.bool (!b)))
def eIf (t : List S → M Bool) (f g : List S → M S) (ρ : List S) : M S := bnd (t ρ) fun b => if b = true then f ρ else g ρ
def tChn (g g' : D → D → Option Bool) (fa fb fc : List S → M S) (ρ : List S) : M Bool := bnd (fa ρ) fun a => bnd (fb ρ) fun b => bnd (vwM a) fun x => bnd (vwM b) fun y => bnd (ofO (g x y)) fun k => if k = true then bnd (fc ρ) fun c => bnd (vwM b) fun y' => bnd (vwM c) fun z => ofO (g' y' z) else ret false
def eChn (g g' : D → D → Option Bool) (fa fb fc : List S → M S) (ρ : List S) : M S := bnd (tChn g g' fa fb fc ρ) fun b => ret (.d (.bool b))
def aNil (_ : List S) : M (List S) := ret []
def aCons (f : List S → M S) (g : List S → M (List S)) (ρ : List S) : M (List S) := bnd (f ρ) fun a => bnd (g ρ) fun as => ret (a :: as)
def asD : List S → Option (List D)
  | [] => some []
  | .d x :: r => (asD r).map (x :: ·)
  | _ :: _ => none
def eTup (g : List S → M (List S)) (ρ : List S) : M S := bnd (g ρ) fun as => bnd (ofO (asD as)) fun xs => if xs.length ≤ sizeLine then ret (.d (.tuple xs)) else stuck
def eLst (g : List S → M (List S)) (ρ : List S) : M Rv := bnd (g ρ) fun as => bnd (ofO (asD as)) fun xs => if xs.length ≤ sizeLine then ret (.own (.lst xs)) else stuck
def frz : Rv → M S
  | .d x => ret (.d x)
  | .own (.lst xs) => ret (.d (.list xs))
  | .cel j => ret (.cel j)
  | _ => stuck
def eFrz (f : List S → M Rv) (ρ : List S) : M S := bnd (f ρ) frz
def sRv : S → M Rv
  | .d x => ret (.d x)
  | .cel j => ret (.cel j)
  | _ => stuck
def eRv (f : List S → M S) (ρ : List S) : M Rv := bnd (f ρ) sRv
def oNone (_ : List S) : M (Option Int) := ret none
def oSome (f : List S → M S) (ρ : List S) : M (Option Int) := bnd (f ρ) fun a => match a with
  | .d (.int i) => ret (some i)
  | _ => stuck
def eSl (f : List S → M S) (l h : List S → M (Option Int)) (ρ : List S) : M S := bnd (f ρ) fun a => bnd (l ρ) fun lo => bnd (h ρ) fun hi => bnd (vwM a) fun x => bnd (ofO (slD x lo hi)) fun d => ret (.d d)

section
variable {X : Cx} {W : WX} {B : Hp} {ca : List Addr} {Hf H : Hp} {ρ : List S} {σ : L2.St} {cs : Store} {α β : Type} {P : List Addr → Hp → Hp → Store → β → Prop}
theorem vwM_ {a : S} {k : D → M β} (r : Rel B ca ρ cs Hf σ H) (h : Gs X W B ca Hf ρ σ (bnd (vwM a) k cs) P) : ∃ d, vw a cs = some d ∧ Gs X W B ca Hf ρ σ (k d cs) P := by
  unfold bnd vwM at h
  cases e : vw a cs with
  | none => rw [e] at h; exact h.elim
  | some d => rw [e] at h; exact ⟨d, rfl, h⟩
theorem ofOb_ {o : Option α} {k : α → M β} (h : Gs X W B ca Hf ρ σ (bnd (ofO o) k cs) P) : ∃ d, o = some d ∧ Gs X W B ca Hf ρ σ (k d cs) P := by
  cases o with
  | none => exact h.elim
  | some d => exact ⟨d, rfl, h⟩
abbrev KE (X : Cx) (W : WX) (t : TE) (f : List S → M S) : Prop := ∀ (B : Hp) (ca : List Addr) (ρ : List S) (cs : Store) (Hf : Hp) (σ : L2.St) (H : Hp) (Q : VK), Rel B ca ρ cs Hf σ H →
  Gs X W B ca Hf ρ σ (f ρ cs) (fun ca' Hf' H' _ s => ∀ v, SvOk ca' Hf' s v → Q v H') → t σ H Q
theorem op2_run {γ : Type} {g : D → D → Option γ} {fa fb : List S → M S} {ta tb : TE} {P : List Addr → Hp → Hp → Store → β → Prop} {k : γ → M β} (ka : KE X W ta fa) (kb : KE X W tb fb) (r : Rel B ca ρ cs Hf σ H)
    (h : Gs X W B ca Hf ρ σ (bnd (op2 g fa fb ρ) k cs) P) {R : V → V → Hp → Prop}
    (hR : ∀ ca2 Hf2 H2 cs2 x y da db z, Nx ca Hf ca2 Hf2 → Rel B ca2 ρ cs2 Hf2 σ H2 → Lv Hf2 H2 x da → Lv Hf2 H2 y db → g da db = some z → Gs X W B ca2 Hf2 ρ σ (k z cs2) P → R x y H2) :
    ta σ H fun x H1 => tb σ H1 fun y H2 => R x y H2 := by
  have h' : Gs X W B ca Hf ρ σ (bnd (fa ρ) (fun a => bnd (fb ρ) fun b => bnd (vwM a) fun x => bnd (vwM b) fun y => bnd (ofO (g x y)) k) cs) P := by
    have e : bnd (op2 g fa fb ρ) k cs = bnd (fa ρ) (fun a => bnd (fb ρ) fun b => bnd (vwM a) fun x => bnd (vwM b) fun y => bnd (ofO (g x y)) k) cs := by
      unfold op2 bnd
      cases fa ρ cs with
      | ok a c1 =>
        dsimp only
        cases fb ρ c1 with
        | ok b c2 =>
          dsimp only
          cases vwM a c2 with
          | ok x c3 =>
            dsimp only
            cases vwM b c3 with
            | ok y c4 => rfl
            | er _ _ => rfl
            | no => rfl
          | er _ _ => rfl
          | no => rfl
        | er _ _ => rfl
        | no => rfl
      | er _ _ => rfl
      | no => rfl
    rw [← e]; exact h
  refine ka B ca ρ cs Hf σ H _ r (h'.bind.mono fun ca1 Hf1 H1 cs1 a n1 r1 h1 x hx => ?_)
  refine kb B ca1 ρ cs1 Hf1 σ H1 _ r1 (h1.bind.mono fun ca2 Hf2 H2 cs2 b n2 r2 h2 y hy => ?_)
  obtain ⟨da, e1, h3⟩ := vwM_ r2 h2
  obtain ⟨db, e2, h4⟩ := vwM_ r2 h3
  obtain ⟨z, e3, h5⟩ := ofOb_ h4
  exact hR ca2 Hf2 H2 cs2 x y da db z (n1.trans n2) r2 (vw_ok r2 (hx.nx n2) e1) (vw_ok r2 hy e2) e3 h5
theorem op1_run {γ : Type} {g : D → Option γ} {fa : List S → M S} {ta : TE} {k : γ → M β} (ka : KE X W ta fa) (r : Rel B ca ρ cs Hf σ H)
    (h : Gs X W B ca Hf ρ σ (bnd (op1 g fa ρ) k cs) P) {R : V → Hp → Prop}
    (hR : ∀ ca2 Hf2 H2 cs2 x da z, Nx ca Hf ca2 Hf2 → Rel B ca2 ρ cs2 Hf2 σ H2 → Lv Hf2 H2 x da → g da = some z → Gs X W B ca2 Hf2 ρ σ (k z cs2) P → R x H2) :
    ta σ H fun x H1 => R x H1 := by
  have h' : Gs X W B ca Hf ρ σ (bnd (fa ρ) (fun a => bnd (vwM a) fun x => bnd (ofO (g x)) k) cs) P := by
    have e : bnd (op1 g fa ρ) k cs = bnd (fa ρ) (fun a => bnd (vwM a) fun x => bnd (ofO (g x)) k) cs := by
      unfold op1 bnd
      cases fa ρ cs with
      | ok a c1 =>
        dsimp only
        cases vwM a c1 with
        | ok x c3 => rfl
        | er _ _ => rfl
        | no => rfl
      | er _ _ => rfl
      | no => rfl
    rw [← e]; exact h
  refine ka B ca ρ cs Hf σ H _ r (h'.bind.mono fun ca1 Hf1 H1 cs1 a n1 r1 h1 x hx => ?_)
  obtain ⟨da, e1, h3⟩ := vwM_ r1 h1
  obtain ⟨z, e3, h5⟩ := ofOb_ h3
  exact hR ca1 Hf1 H1 cs1 x da z n1 r1 (vw_ok r1 hx e1) e3 h5
/-- a Gs without a rest -/
theorem Gs.rest {res : M β} (h : Gs X W B ca Hf ρ σ (res cs) P) : Gs X W B ca Hf ρ σ (bnd res ret cs) P := by
  have e : bnd res ret cs = res cs := by
    unfold bnd
    cases res cs <;> rfl
  rw [e]; exact h
end

section
variable {X : Cx} {W : WX} {a b c : Expr} {fa fb fc : List S → M S} {pos : Pos}
theorem de_name (i : Nat) {x : Str} (hN : X.N[i]? = some x := by rfl) (hv : Vis X.env.scope x := by first | exact Or.inl rfl | exact Or.inr (Or.inl rfl) | exact Or.inr (Or.inr rfl)) (hd : (x == ("__debug__" : Str)) = false := by decide)
    (hcd : (x == ("__classdict__" : Str)) = false := by decide) : DE X W (.Name x pos) (eV i) := by
  refine ⟨_, pe_var hN hv hd hcd, fun B ca ρ cs Hf σ H Q r h => ?_⟩
  unfold eV at h
  cases e : ρ[i]? with
  | none => rw [e] at h; exact h.elim
  | some s =>
    rw [e] at h
    cases s with
    | no => exact h.elim
    | d x =>
      obtain ⟨v, h1, h2⟩ := r.get e (fun z => nomatch z)
      exact ⟨v, h1, h.ret_ r v h2⟩
    | cel j =>
      obtain ⟨v, h1, h2⟩ := r.get e (fun z => nomatch z)
      exact ⟨v, h1, h.ret_ r v h2⟩
    | fn a =>
      obtain ⟨v, h1, h2⟩ := r.get e (fun z => nomatch z)
      exact ⟨v, h1, h.ret_ r v h2⟩
theorem de_int {i j} : DE X W (.Constant (.int i) j pos) (eC (.int i)) := ⟨_, pe_int, fun B ca ρ cs Hf σ H Q r h => h.ret_ r _ (.int i)⟩
theorem de_bl {i j} : DE X W (.Constant (.bool i) j pos) (eC (.bool i)) := ⟨_, pe_bl, fun B ca ρ cs Hf σ H Q r h => h.ret_ r _ (.bl i)⟩
theorem de_str {i j} : DE X W (.Constant (.str i) j pos) (eC (.str i)) := ⟨_, pe_str, fun B ca ρ cs Hf σ H Q r h => h.ret_ r _ (.str i)⟩
theorem de_non {j} : DE X W (.Constant .none j pos) (eC .none) := ⟨_, pe_non, fun B ca ρ cs Hf σ H Q r h => h.ret_ r _ .non⟩
theorem de_globI {x : Str} {i : Int} {t : Tok} (hm : X.mg x = some (.int i t)) (hg : Gl X x := by rfl) (hd : (x == ("__debug__" : Str)) = false := by decide) : DE X W (.Name x pos) (eC (.int i)) :=
  ⟨_, pe_glob (v := .int i) hg hm ⟨t, rfl⟩ hd, fun B ca ρ cs Hf σ H Q r h => h.ret_ r _ (.int i)⟩
theorem de_globF {x : Str} {a : Addr} (hm : X.mg x = some (.ref a)) (hg : Gl X x := by rfl) (hd : (x == ("__debug__" : Str)) = false := by decide) : DE X W (.Name x pos) (eFn a) :=
  ⟨_, pe_glob (v := .ref a) hg hm rfl hd, fun B ca ρ cs Hf σ H Q r h => h.ret_ r _ rfl⟩
theorem de_globS {x y : Str} {t : Tok} (hm : X.mg x = some (.str y t)) (hg : Gl X x := by rfl) (hd : (x == ("__debug__" : Str)) = false := by decide) : DE X W (.Name x pos) (eC (.str y)) :=
  ⟨_, pe_glob (v := .str y) hg hm ⟨t, rfl⟩ hd, fun B ca ρ cs Hf σ H Q r h => h.ret_ r _ (.str y)⟩
theorem DO.frz {f : List S → M Rv} (h : DO X W a f) : DE X W a (eFrz f) := by
  obtain ⟨t, p, k⟩ := h
  refine ⟨t, p, fun B ca ρ cs Hf σ H Q r h => ?_⟩
  refine k B ca ρ cs Hf σ H Q r (h.bind.mono fun ca1 Hf1 H1 cs1 rv n1 r1 h1 v hv => ?_)
  cases rv with
  | d x => exact h1.ret_ r1 v hv
  | cel j => exact h1.ret_ r1 v hv
  | own o =>
    cases o with
    | lst xs =>
      obtain ⟨Hf2, r2, n2, dp⟩ := r1.own hv
      exact h1 ca1 Hf2 H1 n2 r2 v dp
    | dK kvs => exact h1.elim
theorem DE.rv (h : DE X W a fa) : DO X W a (eRv fa) := by
  obtain ⟨t, p, k⟩ := h
  refine ⟨t, p, fun B ca ρ cs Hf σ H Q r h => ?_⟩
  refine k B ca ρ cs Hf σ H Q r (h.bind.mono fun ca1 Hf1 H1 cs1 s n1 r1 h1 v hv => ?_)
  cases s with
  | d x => exact h1.ret_ r1 v hv
  | cel j => exact h1.ret_ r1 v hv
  | fn a => exact h1.elim
  | no => exact h1.elim
theorem de_op {op : Operator} {g : D → D → Option D} (ho : OpR X (binaryOp op) (rD g)) (ha : DE X W a fa) (hb : DE X W b fb) : DE X W (.BinOp a op b pos) (eBin g fa fb) := by
  obtain ⟨ta, pa, ka⟩ := ha
  obtain ⟨tb, pb, kb⟩ := hb
  refine ⟨_, pe_op ho pa pb, fun B ca ρ cs Hf σ H Q r h => ?_⟩
  refine op2_run ka kb r h fun ca2 Hf2 H2 cs2 x y da db z n2 r2 hx hy hz h2 => ?_
  refine ⟨Hf2, da, db, z, hz, r2.ext, hx, hy, fun v Hf3 H3 g3 dv => ?_⟩
  obtain ⟨r3, n3⟩ := r2.gw g3
  exact h2 ca2 Hf3 H3 n3 r3 v dv
theorem de_cmp {op : CmpOp} {g : D → D → Option Bool} (ho : OpR X (compareOp op) (rDb g)) (ha : DE X W a fa) (hb : DE X W b fb) (hm : behindInMarks op b = false := by rfl) : DE X W (.Compare a [op] [b] pos) (eCmp g fa fb) := by
  obtain ⟨ta, pa, ka⟩ := ha
  obtain ⟨tb, pb, kb⟩ := hb
  refine ⟨_, pe_cmpR ho pa pb hm, fun B ca ρ cs Hf σ H Q r h => ?_⟩
  refine op2_run ka kb r h fun ca2 Hf2 H2 cs2 x y da db z n2 r2 hx hy hz h2 => ?_
  exact ⟨Hf2, da, db, z, hz, r2.ext, hx, hy, h2.ret_ r2 _ (.bl z)⟩
theorem dt_cmp {op : CmpOp} {g : D → D → Option Bool} (ho : OpR X (compareOp op) (rDb g)) (ha : DE X W a fa) (hb : DE X W b fb) (hm : behindInMarks op b = false := by rfl) : DT X W (.Compare a [op] [b] pos) (op2 g fa fb) := by
  obtain ⟨ta, pa, ka⟩ := ha
  obtain ⟨tb, pb, kb⟩ := hb
  refine ⟨_, pt_cmpR ho pa pb hm, fun B ca ρ cs Hf σ H Q r h => ?_⟩
  refine op2_run ka kb r h.rest fun ca2 Hf2 H2 cs2 x y da db z n2 r2 hx hy hz h2 => ?_
  exact ⟨Hf2, da, db, z, hz, r2.ext, hx, hy, z, rfl, h2.ret_ r2⟩
theorem isn_dec {da : D} {x : V} {k : Bool} (hx : Dd H x da) (hz : isnD da = some k) : decide (x = V.non) = k := by
  cases hx <;> (unfold isnD at hz; cases hz; first | rfl | simp)
theorem de_isn {j p} (ha : DE X W a fa) : DE X W (.Compare a [.Is] [.Constant .none j p] pos) (eIsN fa) := by
  obtain ⟨ta, pa, ka⟩ := ha
  refine ⟨_, pe_cmpR op_isN pa pe_non rfl, fun B ca ρ cs Hf σ H Q r h => ?_⟩
  refine op1_run ka r h fun ca2 Hf2 H2 cs2 x da z n2 r2 hx hz h2 => ?_
  refine ⟨rfl, ?_⟩
  rw [isn_dec hx.1 hz]
  exact h2.ret_ r2 _ (.bl z)
theorem de_isnn {j p} (ha : DE X W a fa) : DE X W (.Compare a [.IsNot] [.Constant .none j p] pos) (eIsNN fa) := by
  obtain ⟨ta, pa, ka⟩ := ha
  refine ⟨_, pe_cmpR op_notN pa pe_non rfl, fun B ca ρ cs Hf σ H Q r h => ?_⟩
  refine op1_run ka r h fun ca2 Hf2 H2 cs2 x da z n2 r2 hx hz h2 => ?_
  refine ⟨rfl, ?_⟩
  rw [isn_dec hx.1 hz]
  exact h2.ret_ r2 _ (.bl (!z))
theorem dt_isn {j p} (ha : DE X W a fa) : DT X W (.Compare a [.Is] [.Constant .none j p] pos) (op1 isnD fa) := by
  obtain ⟨ta, pa, ka⟩ := ha
  refine ⟨_, pt_cmpR op_isN pa pe_non rfl, fun B ca ρ cs Hf σ H Q r h => ?_⟩
  refine op1_run ka r h.rest fun ca2 Hf2 H2 cs2 x da z n2 r2 hx hz h2 => ?_
  refine ⟨rfl, z, by rw [isn_dec hx.1 hz], h2.ret_ r2⟩
theorem dt_isnn {j p} (ha : DE X W a fa) : DT X W (.Compare a [.IsNot] [.Constant .none j p] pos) (tNotM (op1 isnD fa)) := by
  obtain ⟨ta, pa, ka⟩ := ha
  refine ⟨_, pt_cmpR op_notN pa pe_non rfl, fun B ca ρ cs Hf σ H Q r h => ?_⟩
  refine op1_run ka r h fun ca2 Hf2 H2 cs2 x da z n2 r2 hx hz h2 => ?_
  refine ⟨rfl, !z, by rw [isn_dec hx.1 hz], h2.ret_ r2⟩
/-- an expression's truth as a test -/
theorem dt_tru (ha : DE X W a fa) (he : ∀ whole, isTrue a X.env whole = (do let v ← whole; standAt a.pos; holding [v] (truthy v)) := by intro _; rfl) : DT X W a (tT fa) := by
  obtain ⟨ta, pa, ka⟩ := ha
  refine ⟨_, pt_truth pa he, fun B ca ρ cs Hf σ H Q r h => ?_⟩
  refine op1_run ka r h.rest fun ca2 Hf2 H2 cs2 x da z n2 r2 hx hz h2 => ?_
  exact ⟨z, tru_dd hx.1 hz, h2.ret_ r2⟩
theorem dt_not {f : List S → M Bool} (ha : DT X W a f) : DT X W (.UnaryOp .Not a pos) (tNotM f) := by
  obtain ⟨ta, pa, ka⟩ := ha
  refine ⟨_, pt_not pa, fun B ca ρ cs Hf σ H Q r h => ?_⟩
  exact ka B ca ρ cs Hf σ H _ r (h.bind.mono fun ca1 Hf1 H1 cs1 z n1 r1 h1 => h1.ret_ r1)
theorem DW.dt {f : List S → M Bool} (h : DW X W a f) : DT X W a f := let ⟨t, p, k⟩ := h; ⟨t, p.pt, k⟩
variable {f g : List S → M Bool} {rest : List Expr}
theorem dw_and1 (h : DT X W a f) : DW X W (.BoolOp .And [a] pos) f := let ⟨t, p, k⟩ := h; ⟨t, pw_and1 p, k⟩
theorem dw_or1 (h : DT X W a f) : DW X W (.BoolOp .Or [a] pos) f := let ⟨t, p, k⟩ := h; ⟨t, pw_or1 p, k⟩
theorem dw_and (ha : DT X W a f) (hb : DW X W (.BoolOp .And (b :: rest) pos) g) : DW X W (.BoolOp .And (a :: b :: rest) pos) (tAndM f g) := by
  obtain ⟨ta, pa, ka⟩ := ha
  obtain ⟨tb, pb, kb⟩ := hb
  refine ⟨_, pw_and pa pb, fun B ca ρ cs Hf σ H Q r h => ?_⟩
  refine ka B ca ρ cs Hf σ H _ r (h.bind.mono fun ca1 Hf1 H1 cs1 z n1 r1 h1 => ?_)
  cases z with
  | true => exact kb B ca1 ρ cs1 Hf1 σ H1 Q r1 h1
  | false => exact h1.ret_ r1
theorem dw_or (ha : DT X W a f) (hb : DW X W (.BoolOp .Or (b :: rest) pos) g) : DW X W (.BoolOp .Or (a :: b :: rest) pos) (tOrM f g) := by
  obtain ⟨ta, pa, ka⟩ := ha
  obtain ⟨tb, pb, kb⟩ := hb
  refine ⟨_, pw_or pa pb, fun B ca ρ cs Hf σ H Q r h => ?_⟩
  refine ka B ca ρ cs Hf σ H _ r (h.bind.mono fun ca1 Hf1 H1 cs1 z n1 r1 h1 => ?_)
  cases z with
  | true => exact h1.ret_ r1
  | false => exact kb B ca1 ρ cs1 Hf1 σ H1 Q r1 h1
theorem de_one {op} (h : DE X W a fa) : DE X W (.BoolOp op [a] pos) fa := let ⟨t, p, k⟩ := h; ⟨t, pe_one p, k⟩
theorem de_and (ha : DE X W a fa) (hb : DE X W (.BoolOp .And (b :: rest) pos) fb) : DE X W (.BoolOp .And (a :: b :: rest) pos) (eAndM fa fb) := by
  obtain ⟨ta, pa, ka⟩ := ha
  obtain ⟨tb, pb, kb⟩ := hb
  refine ⟨_, pe_andT pa pb, fun B ca ρ cs Hf σ H Q r h => ?_⟩
  refine ka B ca ρ cs Hf σ H _ r (h.bind.mono fun ca1 Hf1 H1 cs1 s n1 r1 h1 v hv => ?_)
  obtain ⟨d, e1, h2⟩ := vwM_ r1 h1
  obtain ⟨z, e2, h3⟩ := ofOb_ h2
  refine ⟨z, tru_dd (vw_ok r1 hv e1).1 e2, ?_⟩
  cases z with
  | true => exact kb B ca1 ρ cs1 Hf1 σ H1 Q r1 h3
  | false => exact h3.ret_ r1 v hv
theorem de_or (ha : DE X W a fa) (hb : DE X W (.BoolOp .Or (b :: rest) pos) fb) : DE X W (.BoolOp .Or (a :: b :: rest) pos) (eOrM fa fb) := by
  obtain ⟨ta, pa, ka⟩ := ha
  obtain ⟨tb, pb, kb⟩ := hb
  refine ⟨_, pe_orT pa pb, fun B ca ρ cs Hf σ H Q r h => ?_⟩
  refine ka B ca ρ cs Hf σ H _ r (h.bind.mono fun ca1 Hf1 H1 cs1 s n1 r1 h1 v hv => ?_)
  obtain ⟨d, e1, h2⟩ := vwM_ r1 h1
  obtain ⟨z, e2, h3⟩ := ofOb_ h2
  refine ⟨z, tru_dd (vw_ok r1 hv e1).1 e2, ?_⟩
  cases z with
  | true => exact h3.ret_ r1 v hv
  | false => exact kb B ca1 ρ cs1 Hf1 σ H1 Q r1 h3
theorem de_not (ha : DE X W a fa) : DE X W (.UnaryOp .Not a pos) (eNotM fa) := by
  obtain ⟨ta, pa, ka⟩ := ha
  refine ⟨_, pe_notT pa, fun B ca ρ cs Hf σ H Q r h => ?_⟩
  refine op1_run ka r h fun ca2 Hf2 H2 cs2 x da z n2 r2 hx hz h2 => ?_
  exact ⟨z, tru_dd hx.1 hz, h2.ret_ r2 _ (.bl (!z))⟩
theorem de_if (hc : DT X W c f) (ha : DE X W a fa) (hb : DE X W b fb) : DE X W (.IfExp c a b pos) (eIf f fa fb) := by
  obtain ⟨tc, pc, kc⟩ := hc
  obtain ⟨ta, pa, ka⟩ := ha
  obtain ⟨tb, pb, kb⟩ := hb
  refine ⟨_, pe_ifExp pc pa pb, fun B ca ρ cs Hf σ H Q r h => ?_⟩
  refine kc B ca ρ cs Hf σ H _ r (h.bind.mono fun ca1 Hf1 H1 cs1 z n1 r1 h1 => ?_)
  cases z with
  | true => exact ka B ca1 ρ cs1 Hf1 σ H1 Q r1 h1
  | false => exact kb B ca1 ρ cs1 Hf1 σ H1 Q r1 h1
theorem chn_run {ta tb tc : TE} {g g' : D → D → Option Bool} (ka : KE X W ta fa) (kb : KE X W tb fb) (kc : KE X W tc fc) {B : Hp} {ca : List Addr} {ρ : List S} {cs : Store} {Hf : Hp} {σ : L2.St} {H : Hp} (r : Rel B ca ρ cs Hf σ H) {R : Bool → Hp → Prop}
    (h : Gs X W B ca Hf ρ σ (tChn g g' fa fb fc ρ cs) (fun _ _ H' _ b => R b H')) : tChain (rDb g) (rDb g') ta tb tc σ H fun x H' => ∃ k, x = .bl k ∧ R k H' := by
  refine ka B ca ρ cs Hf σ H _ r (h.bind.mono fun ca1 Hf1 H1 cs1 s n1 r1 h1 x hx => ?_)
  refine kb B ca1 ρ cs1 Hf1 σ H1 _ r1 (h1.bind.mono fun ca2 Hf2 H2 cs2 s2 n2 r2 h2 y hy => ?_)
  obtain ⟨da, e1, h3⟩ := vwM_ r2 h2
  obtain ⟨db, e2, h4⟩ := vwM_ r2 h3
  obtain ⟨z, e3, h5⟩ := ofOb_ h4
  refine ⟨Hf2, da, db, z, e3, r2.ext, vw_ok r2 (hx.nx n2) e1, vw_ok r2 hy e2, z, rfl, ?_⟩
  cases z with
  | false => exact iteF ⟨false, rfl, h5.ret_ r2⟩
  | true =>
    refine iteT ?_
    have h5' : Gs X W B ca2 Hf2 ρ σ (bnd (fc ρ) (fun c => bnd (vwM s2) fun y' => bnd (vwM c) fun z => ofO (g' y' z)) cs2) (fun _ _ H' _ b => R b H') := h5
    refine kc B ca2 ρ cs2 Hf2 σ H2 _ r2 (h5'.bind.mono fun ca3 Hf3 H3 cs3 s3 n3 r3 h6 w hw => ?_)
    obtain ⟨db', e4, h7⟩ := vwM_ r3 h6
    obtain ⟨dc, e5, h8⟩ := vwM_ r3 h7
    obtain ⟨k, e6, h9⟩ := h8.ofO_ r3
    exact ⟨Hf3, db', dc, k, e6, r3.ext, vw_ok r3 (hy.nx n3) e4, vw_ok r3 hw e5, k, rfl, h9⟩
theorem dt_chn {op op' : CmpOp} {g g' : D → D → Option Bool} (ho : OpR X (compareOp op) (rDb g)) (ho' : OpR X (compareOp op') (rDb g')) (ha : DE X W a fa) (hb : DE X W b fb) (hc : DE X W c fc)
    (hm : lastMarks [op, op'] [b, c] = false := by with_unfolding_all rfl) : DT X W (.Compare a [op, op'] [b, c] pos) (tChn g g' fa fb fc) := by
  obtain ⟨ta, pa, ka⟩ := ha
  obtain ⟨tb, pb, kb⟩ := hb
  obtain ⟨tc, pc, kc⟩ := hc
  exact ⟨_, pt_chain ho ho' pa pb pc hm, fun B ca ρ cs Hf σ H Q r h => chn_run ka kb kc r h⟩
theorem de_chn {op op' : CmpOp} {g g' : D → D → Option Bool} (ho : OpR X (compareOp op) (rDb g)) (ho' : OpR X (compareOp op') (rDb g')) (ha : DE X W a fa) (hb : DE X W b fb) (hc : DE X W c fc)
    (hm : lastMarks [op, op'] [b, c] = false := by with_unfolding_all rfl) : DE X W (.Compare a [op, op'] [b, c] pos) (eChn g g' fa fb fc) := by
  obtain ⟨ta, pa, ka⟩ := ha
  obtain ⟨tb, pb, kb⟩ := hb
  obtain ⟨tc, pc, kc⟩ := hc
  have mono : ∀ {σ : L2.St} {H : Hp} {Q Q' : VK}, tChain (rDb g) (rDb g') ta tb tc σ H Q → tChain (rDb g) (rDb g') ta tb tc σ H Q := fun h => h
  refine ⟨_, pe_chain ho ho' pa pb pc hm, fun B ca ρ cs Hf σ H Q r h => ?_⟩
  refine ka B ca ρ cs Hf σ H _ r ?_
  have h0 : Gs X W B ca Hf ρ σ (bnd (fa ρ) (fun s => bnd (fun cs => bnd (fb ρ) (fun b => bnd (vwM s) fun x => bnd (vwM b) fun y => bnd (ofO (g x y)) fun k => if k = true then bnd (fc ρ) fun c => bnd (vwM b) fun y' => bnd (vwM c) fun z => ofO (g' y' z) else ret false) cs) fun b => ret (.d (.bool b))) cs) (fun ca' Hf' H' _ s => ∀ v, SvOk ca' Hf' s v → Q v H') := by
    have e : ∀ (m : M S) (k : S → M Bool) (k2 : Bool → M S), bnd (bnd m k) k2 cs = bnd m (fun s => bnd (k s) k2) cs := fun m k k2 => by
      unfold bnd
      cases m cs <;> rfl
    have h' := h
    unfold eChn tChn at h'
    rw [e] at h'
    exact h'
  refine h0.bind.mono fun ca1 Hf1 H1 cs1 s n1 r1 h1 x hx => ?_
  have h1' := h1.bind
  refine kb B ca1 ρ cs1 Hf1 σ H1 _ r1 (h1'.bind.mono fun ca2 Hf2 H2 cs2 s2 n2 r2 h2 y hy => ?_)
  obtain ⟨da, e1, h3⟩ := vwM_ r2 h2
  obtain ⟨db, e2, h4⟩ := vwM_ r2 h3
  obtain ⟨z, e3, h5⟩ := ofOb_ h4
  refine ⟨Hf2, da, db, z, e3, r2.ext, vw_ok r2 (hx.nx n2) e1, vw_ok r2 hy e2, z, rfl, ?_⟩
  cases z with
  | false => exact iteF ((h5.ret_ r2).ret_ r2 _ (.bl false))
  | true =>
    refine iteT ?_
    have h5' : Gs X W B ca2 Hf2 ρ σ (bnd (fc ρ) (fun c => bnd (vwM s2) fun y' => bnd (vwM c) fun z => ofO (g' y' z)) cs2) _ := h5
    refine kc B ca2 ρ cs2 Hf2 σ H2 _ r2 (h5'.bind.mono fun ca3 Hf3 H3 cs3 s3 n3 r3 h6 w hw => ?_)
    obtain ⟨db', e4, h7⟩ := vwM_ r3 h6
    obtain ⟨dc, e5, h8⟩ := vwM_ r3 h7
    obtain ⟨k, e6, h9⟩ := h8.ofO_ r3
    exact ⟨Hf3, db', dc, k, e6, r3.ext, vw_ok r3 (hy.nx n3) e4, vw_ok r3 hw e5, h9.ret_ r3 _ (.bl k)⟩
end
end Dn

set_option Elab.async false
set_option linter.all false
set_option maxRecDepth 100000
set_option maxHeartbeats 1000000
/-! Dn4: arguments, displays, subscripts, calls of built-ins. -/
namespace Dn
open PySem L2
abbrev KA (X : Cx) (W : WX) (t : TA) (f : List S → M (List S)) : Prop := ∀ (B : Hp) (ca : List Addr) (ρ : List S) (cs : Store) (Hf : Hp) (σ : L2.St) (H : Hp) (Q : List V → Hp → Prop), Rel B ca ρ cs Hf σ H →
  Gs X W B ca Hf ρ σ (f ρ cs) (fun ca' Hf' H' _ ss => ∀ vs, SvsOk ca' Hf' ss vs → Q vs H') → t σ H Q
section
variable {Hf H : Hp} {ca : List Addr}
theorem asD_dds : ∀ {ss : List S} {xs : List D} {vs : List V}, asD ss = some xs → SvsOk ca Hf ss vs → Dds Hf vs xs
  | [], xs, vs, e, h => by
    have : [] = xs := Option.some.inj e
    subst this
    cases h
    exact .nil
  | .d x :: r, xs, vs, e, h => by
    unfold asD at e
    cases q : asD r with
    | none => rw [q] at e; cases e
    | some ys =>
      rw [q] at e
      have : x :: ys = xs := Option.some.inj e
      subst this
      cases h with
      | cons h t => exact .cons h (asD_dds q t)
  | .cel j :: r, xs, vs, e, h => by cases e
  | .fn a :: r, xs, vs, e, h => by cases e
  | .no :: r, xs, vs, e, h => by cases e
end
section
variable {X : Cx} {W : WX} {a b e : Expr} {es : List Expr} {fa fb : List S → M S} {g : List S → M (List S)} {pos : Pos}
theorem da_nil : DA X W [] aNil := ⟨_, pa_nil, fun B ca ρ cs Hf σ H Q r h => h.ret_ r _ .nil⟩
theorem da_cons (ha : DE X W e fa) (hr : DA X W es g) (hs : starEach (e :: es) X.env = (false, eval e X.env) :: starEach es X.env := by rfl) : DA X W (e :: es) (aCons fa g) := by
  obtain ⟨ta, pa, ka⟩ := ha
  obtain ⟨tr, pr, kr⟩ := hr
  refine ⟨_, pa_cons pa pr hs, fun B ca ρ cs Hf σ H Q r h => ?_⟩
  refine ka B ca ρ cs Hf σ H _ r (h.bind.mono fun ca1 Hf1 H1 cs1 s n1 r1 h1 v hv => ?_)
  refine kr B ca1 ρ cs1 Hf1 σ H1 _ r1 (h1.bind.mono fun ca2 Hf2 H2 cs2 ss n2 r2 h2 vs hvs => ?_)
  exact h2.ret_ r2 _ (.cons (hv.nx n2) hvs)
theorem de_tup {k} (hr : DA X W es g) : DE X W (.Tuple es k pos) (eTup g) := by
  obtain ⟨tr, pr, kr⟩ := hr
  refine ⟨_, pe_tup pr, fun B ca ρ cs Hf σ H Q r h => ?_⟩
  refine kr B ca ρ cs Hf σ H _ r (h.bind.mono fun ca1 Hf1 H1 cs1 ss n1 r1 h1 vs hvs => ?_)
  obtain ⟨xs, e1, h2⟩ := ofOb_ h1
  have dd := asD_dds e1 hvs
  split at h2
  · rename_i hz
    refine ⟨by rw [dps_len dd]; exact hz, fun p hp => ?_⟩
    obtain ⟨r2, n2⟩ := r1.news (o := .tup vs) hp
    exact h2 ca1 _ _ n2 r2 _ (.tup (.inl upd_same) (dps_ex n2.ex dd))
  · exact h2.elim
theorem do_lst (hr : DA X W es g) : DO X W (.List es pos) (eLst g) := by
  obtain ⟨tr, pr, kr⟩ := hr
  refine ⟨_, pe_lst pr, fun B ca ρ cs Hf σ H Q r h => ?_⟩
  refine kr B ca ρ cs Hf σ H _ r (h.bind.mono fun ca1 Hf1 H1 cs1 ss n1 r1 h1 vs hvs => ?_)
  obtain ⟨xs, e1, h2⟩ := ofOb_ h1
  have dd := asD_dds e1 hvs
  split at h2
  · rename_i hz
    refine ⟨by rw [dps_len dd]; exact hz, fun p hp => ?_⟩
    obtain ⟨m1, m2, m3⟩ := r1.newIn hp
    exact h2 ca1 Hf1 _ Nx.refl (r1.grow (ex_new hp)) _ ⟨p, rfl, ⟨vs, upd_same, dd⟩, m1, m2, m3⟩
  · exact h2.elim
theorem de_ix (ha : DE X W a fa) (hb : DE X W b fb) (hs : PlainIx b := by exact fun _ _ => rfl) : DE X W (.Subscript a b pos) (eBin ixD fa fb) := by
  obtain ⟨ta, pa, ka⟩ := ha
  obtain ⟨tb, pb, kb⟩ := hb
  refine ⟨_, pe_ix ix_ok pa pb hs, fun B ca ρ cs Hf σ H Q r h => ?_⟩
  refine op2_run ka kb r h fun ca2 Hf2 H2 cs2 x y da db z n2 r2 hx hy hz h2 => ?_
  refine ⟨Hf2, da, db, z, hz, r2.ext, hx, hy, fun v Hf3 H3 g3 dv => ?_⟩
  obtain ⟨r3, n3⟩ := r2.gw g3
  exact h2 ca2 Hf3 H3 n3 r3 v dv
/-- a part of a slice -/
def DPo (X : Cx) (W : WX) (e : Option Expr) (f : List S → M (Option Int)) : Prop := ∃ t : TO, PO X e t ∧ ∀ (B : Hp) (ca : List Addr) (ρ : List S) (cs : Store) (Hf : Hp) (σ : L2.St) (H : Hp) (Q : Option Int → Hp → Prop), Rel B ca ρ cs Hf σ H →
  Gs X W B ca Hf ρ σ (f ρ cs) (fun ca' Hf' H' _ o => Q o H') → t σ H Q
theorem dpo_none : DPo X W none oNone := ⟨_, po_none, fun B ca ρ cs Hf σ H Q r h => h.ret_ r⟩
theorem dpo_some (ha : DE X W a fa) : DPo X W (some a) (oSome fa) := by
  obtain ⟨ta, pa, ka⟩ := ha
  refine ⟨_, po_some pa, fun B ca ρ cs Hf σ H Q r h => ?_⟩
  refine ka B ca ρ cs Hf σ H _ r (h.bind.mono fun ca1 Hf1 H1 cs1 s n1 r1 h1 v hv => ?_)
  cases s with
  | d x =>
    cases x with
    | int i =>
      have hv' : Dd Hf1 v (.int i) := hv
      cases hv'
      exact ⟨i, rfl, h1.ret_ r1⟩
    | _ => exact h1.elim
  | _ => exact h1.elim
theorem de_sl {lo hi : Option Expr} {p2 : Pos} {fl fh : List S → M (Option Int)} (ha : DE X W a fa) (hl : DPo X W lo fl) (hh : DPo X W hi fh) : DE X W (.Subscript a (.Slice lo hi none p2) pos) (eSl fa fl fh) := by
  obtain ⟨ta, pa, ka⟩ := ha
  obtain ⟨tl, pl, kl⟩ := hl
  obtain ⟨th, ph, kh⟩ := hh
  refine ⟨_, pe_slice sl_ok pa pl ph, fun B ca ρ cs Hf σ H Q r h => ?_⟩
  refine ka B ca ρ cs Hf σ H _ r (h.bind.mono fun ca1 Hf1 H1 cs1 s n1 r1 h1 v hv => ?_)
  refine kl B ca1 ρ cs1 Hf1 σ H1 _ r1 (h1.bind.mono fun ca2 Hf2 H2 cs2 o n2 r2 h2 => ?_)
  refine kh B ca2 ρ cs2 Hf2 σ H2 _ r2 (h2.bind.mono fun ca3 Hf3 H3 cs3 o' n3 r3 h3 => ?_)
  obtain ⟨d, e1, h4⟩ := vwM_ r3 h3
  obtain ⟨d', e2, h5⟩ := ofOb_ h4
  refine ⟨Hf3, d, d', e2, r3.ext, vw_ok r3 (hv.nx (n2.trans n3)) e1, fun w Hf4 H4 g4 dw => ?_⟩
  obtain ⟨r4, n4⟩ := r3.gw g4
  exact h5 ca3 Hf4 H4 n4 r4 w dw
end

/-! ### built-in functions of data -/
def rCd (g : List D → Option D) : List V → Hp → VK → Prop := fun vs H Q => ∃ Hf ds d, g ds = some d ∧ Ex Hf H ∧ Lvs Hf H vs ds ∧ ∀ v Hf' H', Gw Hf H Hf' H' → Dd Hf' v d → Q v H'
where Lvs (Hf H : Hp) : List V → List D → Prop
  | [], [] => True
  | v :: vs, d :: ds => Lv Hf H v d ∧ Lvs Hf H vs ds
  | _, _ => False
def vws : List S → Store → Option (List D)
  | [], _ => some []
  | s :: r, cs => match vw s cs, vws r cs with
    | some d, some ds => some (d :: ds)
    | _, _ => none
def vwsM (ss : List S) : M (List D) := fun cs => match vws ss cs with
  | some ds => .ok ds cs
  | none => .no
def eCd (g : List D → Option D) (f : List S → M (List S)) (ρ : List S) : M S := bnd (f ρ) fun ss => bnd (vwsM ss) fun ds => bnd (ofO (g ds)) fun d => ret (.d d)
theorem vwsM_ {X : Cx} {W : WX} {B : Hp} {ca : List Addr} {Hf : Hp} {ρ : List S} {σ : L2.St} {cs : Store} {β : Type} {P : List Addr → Hp → Hp → Store → β → Prop} {a : List S} {k : List D → M β} (h : Gs X W B ca Hf ρ σ (bnd (vwsM a) k cs) P) : ∃ d, vws a cs = some d ∧ Gs X W B ca Hf ρ σ (k d cs) P := by
  unfold bnd vwsM at h
  cases e : vws a cs with
  | none => rw [e] at h; exact h.elim
  | some d => rw [e] at h; exact ⟨d, rfl, h⟩
theorem vws_ok {B : Hp} {ca : List Addr} {ρ : List S} {cs : Store} {Hf : Hp} {σ : L2.St} {H : Hp} (r : Rel B ca ρ cs Hf σ H) : ∀ {ss : List S} {vs : List V} {ds : List D}, SvsOk ca Hf ss vs → vws ss cs = some ds → rCd.Lvs Hf H vs ds
  | [], _, ds, h, e => by
    have : [] = ds := Option.some.inj e
    subst this
    cases h
    trivial
  | s :: ss, _, ds, h, e => by
    cases h with
    | cons h t =>
      unfold vws at e
      split at e
      · rename_i d ds' e1 e2
        cases e
        exact ⟨vw_ok r h e1, vws_ok r t e2⟩
      · cases e
section
variable {X : Cx} {W : WX} {a b e : Expr} {es : List Expr} {fa fb : List S → M S} {g : List S → M (List S)} {pos : Pos}
theorem eCd_run {gd : List D → Option D} {t : TA} (k : KA X W t g) {B : Hp} {ca : List Addr} {ρ : List S} {cs : Store} {Hf : Hp} {σ : L2.St} {H : Hp} {Q : VK} (r : Rel B ca ρ cs Hf σ H)
    (h : Gs X W B ca Hf ρ σ (eCd gd g ρ cs) (fun ca' Hf' H' _ s => ∀ v, SvOk ca' Hf' s v → Q v H')) : tCB (rCd gd) t σ H Q := by
  refine k B ca ρ cs Hf σ H _ r (h.bind.mono fun ca1 Hf1 H1 cs1 ss n1 r1 h1 vs hvs => ?_)
  obtain ⟨ds, e1, h2⟩ := vwsM_ h1
  obtain ⟨d, e2, h3⟩ := ofOb_ h2
  refine ⟨Hf1, ds, d, e2, r1.ext, vws_ok r1 hvs e1, fun v Hf2 H2 g2 dv => ?_⟩
  obtain ⟨r3, n3⟩ := r1.gw g2
  exact h3 ca1 Hf2 H2 n3 r3 v dv
theorem de_callB {x : Str} {id : String} {p : Pos} {gd : List D → Option D} (hc : CallR X (.builtin id) (rCd gd)) (hm : X.mg x = none) (hv : bootBuiltins x = some (.builtin id)) (ha : DA X W (e :: es) g) (hg : Gl X x := by rfl) (hn : x ≠ "__name__" := by decide) (hdb : (x == ("__debug__" : Str)) = false := by decide)
    (he : starEach (e :: es) X.env = (false, eval e X.env) :: starEach es X.env := by rfl) (hpl : (backTo pos (starEach es X.env)).any (·.1) = false := by rfl) : DE X W (.Call (.Name x p) (e :: es) [] pos) (eCd gd g) := by
  obtain ⟨tr, pr, kr⟩ := ha
  exact ⟨_, pe_callB hc hg hm hv pr hn hdb he hpl, fun B ca ρ cs Hf σ H Q r h => eCd_run kr r h⟩
theorem de_callT {x : Str} {T : String} {p : Pos} {gd : List D → Option D} (hc : CallR X (.type T) (rCd gd)) (hm : X.mg x = none) (hv : bootBuiltins x = some (.type T)) (ha : DA X W (e :: es) g) (hg : Gl X x := by rfl) (hn : x ≠ "__name__" := by decide) (hdb : (x == ("__debug__" : Str)) = false := by decide)
    (he : starEach (e :: es) X.env = (false, eval e X.env) :: starEach es X.env := by rfl) (hpl : (backTo pos (starEach es X.env)).any (·.1) = false := by rfl) : DE X W (.Call (.Name x p) (e :: es) [] pos) (eCd gd g) := by
  obtain ⟨tr, pr, kr⟩ := ha
  exact ⟨_, pe_callTy hc hg hm hv pr hn hdb he hpl, fun B ca ρ cs Hf σ H Q r h => eCd_run kr r h⟩
end
def lenG : List D → Option D
  | [d] => (lenD d).map fun n => .int n
  | _ => none
def minG : List D → Option D
  | [.int i, .int j] => some (.int (if j < i then j else i))
  | _ => none
def maxG : List D → Option D
  | [.int i, .int j] => some (.int (if j > i then j else i))
  | _ => none
def absG : List D → Option D
  | [.int i] => some (.int (if i < 0 then -i else i))
  | _ => none
def intG : List D → Option D
  | [.int i] => some (.int i)
  | [.bool b] => some (.int (if b then 1 else 0))
  | _ => none
def listG : List D → Option D
  | [.list xs] => some (.list xs)
  | [.tuple xs] => some (.list xs)
  | _ => none
def tupleG : List D → Option D
  | [.list xs] => some (.tuple xs)
  | [.tuple xs] => some (.tuple xs)
  | _ => none
section
variable {X : Cx}
theorem lvs_one {Hf H : Hp} {vs : List V} {d : D} (h : rCd.Lvs Hf H vs [d]) : ∃ v, vs = [v] ∧ Lv Hf H v d := by
  match vs, h with
  | [v], h => exact ⟨v, rfl, h.1⟩
  | v :: _ :: _, h => exact h.2.elim
theorem lvs_two {Hf H : Hp} {vs : List V} {d d' : D} (h : rCd.Lvs Hf H vs [d, d']) : ∃ v v', vs = [v, v'] ∧ Lv Hf H v d ∧ Lv Hf H v' d' := by
  match vs, h with
  | [v, v'], h => exact ⟨v, v', rfl, h.1, h.2.1⟩
  | [_], h => exact h.2.elim
  | _ :: _ :: _ :: _, h => exact h.2.2.elim
theorem len_ok : CallR X (.builtin "len") (rCd lenG) := by
  intro pins s σ H xs us Q I r h
  obtain ⟨Hf, ds, d, e, ex, hl, q⟩ := h
  unfold lenG at e
  split at e
  · rename_i d0
    obtain ⟨v, rfl, hv⟩ := lvs_one hl
    cases z : lenD d0 with
    | none => rw [z] at e; cases e
    | some n =>
      rw [z] at e
      cases e
      refine call_len pins s σ H _ us Q I r ⟨v, n, rfl, ?_, q _ _ _ (Gw.refl ex) (.int _)⟩
      have d1 := hv.1
      cases d1 with
      | str x =>
        have z' : (if x.length ≤ sizeLine then some x.length else none) = some n := z
        split at z'
        · cases z'; exact ⟨by assumption, rfl⟩
        · cases z'
      | lst h a => cases z; exact .inl ⟨_, .inl h, (dps_len a).symm⟩
      | tup h a => cases z; exact .inr ⟨_, .inl h, (dps_len a).symm⟩
      | _ => cases z
  · cases e
theorem min_ok (hc : X.calm = true) : CallR X (.builtin "min") (rCd minG) := by
  intro pins s σ H xs us Q I r h
  obtain ⟨Hf, ds, d, e, ex, hl, q⟩ := h
  unfold minG at e
  split at e
  · cases e
    obtain ⟨v, v', rfl, h1, h2⟩ := lvs_two hl
    have := h1.int_; subst this
    have := h2.int_; subst this
    exact call_min2 hc pins s σ H _ us Q I r ⟨_, _, rfl, q _ _ _ (Gw.refl ex) (.int _)⟩
  · cases e
theorem max_ok (hc : X.calm = true) : CallR X (.builtin "max") (rCd maxG) := by
  intro pins s σ H xs us Q I r h
  obtain ⟨Hf, ds, d, e, ex, hl, q⟩ := h
  unfold maxG at e
  split at e
  · cases e
    obtain ⟨v, v', rfl, h1, h2⟩ := lvs_two hl
    have := h1.int_; subst this
    have := h2.int_; subst this
    exact call_max2 hc pins s σ H _ us Q I r ⟨_, _, rfl, q _ _ _ (Gw.refl ex) (.int _)⟩
  · cases e
theorem abs_ok : CallR X (.builtin "abs") (rCd absG) := by
  intro pins s σ H xs us Q I r h
  obtain ⟨Hf, ds, d, e, ex, hl, q⟩ := h
  unfold absG at e
  split at e
  · cases e
    obtain ⟨v, rfl, h1⟩ := lvs_one hl
    have := h1.int_; subst this
    exact call_abs pins s σ H _ us Q I r ⟨_, rfl, q _ _ _ (Gw.refl ex) (.int _)⟩
  · cases e
theorem int_ok : CallR X (.type "int") (rCd intG) := by
  intro pins s σ H xs us Q I r h
  obtain ⟨Hf, ds, d, e, ex, hl, q⟩ := h
  unfold intG at e
  split at e
  · cases e
    obtain ⟨v, rfl, h1⟩ := lvs_one hl
    have := h1.int_; subst this
    exact call_int1 pins s σ H _ us Q I r (.inl ⟨_, rfl, q _ _ _ (Gw.refl ex) (.int _)⟩)
  · cases e
    obtain ⟨v, rfl, h1⟩ := lvs_one hl
    have := h1.bl_; subst this
    exact call_int1 pins s σ H _ us Q I r (.inr ⟨_, rfl, q _ _ _ (Gw.refl ex) (.int _)⟩)
  · cases e
theorem list_ok : CallR X (.type "list") (rCd listG) := by
  intro pins s σ H xs us Q I r h
  obtain ⟨Hf, ds, d, e, ex, hl, q⟩ := h
  unfold listG at e
  split at e
  · cases e
    obtain ⟨v, rfl, h1⟩ := lvs_one hl
    obtain ⟨a, vs, rfl, g1, g2⟩ := h1.lst
    refine call_list_of pins s σ H _ us Q I r ⟨a, vs, rfl, .inl (.inl g1), fun l hl => ?_⟩
    have g := Gw.new (o := .lst vs) ex hl
    exact q _ _ _ g (.lst (.inl upd_same) (dps_ex g.ex g2))
  · cases e
    obtain ⟨v, rfl, h1⟩ := lvs_one hl
    obtain ⟨a, vs, rfl, g1, g2⟩ := h1.tup
    refine call_list_of pins s σ H _ us Q I r ⟨a, vs, rfl, .inr (.inl g1), fun l hl => ?_⟩
    have g := Gw.new (o := .lst vs) ex hl
    exact q _ _ _ g (.lst (.inl upd_same) (dps_ex g.ex g2))
  · cases e
theorem tuple_ok : CallR X (.type "tuple") (rCd tupleG) := by
  intro pins s σ H xs us Q I r h
  obtain ⟨Hf, ds, d, e, ex, hl, q⟩ := h
  unfold tupleG at e
  split at e
  · cases e
    obtain ⟨v, rfl, h1⟩ := lvs_one hl
    obtain ⟨a, vs, rfl, g1, g2⟩ := h1.lst
    refine call_tuple_of pins s σ H _ us Q I r ⟨a, vs, rfl, .inl ⟨.inl g1, fun l hl => ?_⟩⟩
    have g := Gw.new (o := .tup vs) ex hl
    exact q _ _ _ g (.tup (.inl upd_same) (dps_ex g.ex g2))
  · cases e
    obtain ⟨v, rfl, h1⟩ := lvs_one hl
    obtain ⟨a, vs, rfl, g1, g2⟩ := h1.tup
    exact call_tuple_of pins s σ H _ us Q I r ⟨a, vs, rfl, .inr ⟨.inl g1, q _ _ _ (Gw.refl ex) (h1.flat fun _ z => nomatch z)⟩⟩
  · cases e
/-- isinstance(x, T), T a built-in class -/
def eIsa (T : String) (fa : List S → M S) (ρ : List S) : M S := bnd (op1 (fun d => some (isaD T d)) fa ρ) fun b => ret (.d (.bool b))
theorem kit_isa {K : PySem.W.Frag} {H : Hp} {v : V} {d : D} {T : String} (h : Dd H v d) (hT : T = "int" ∨ T = "bool" ∨ T = "str" ∨ T = "list" ∨ T = "tuple" ∨ T = "dict") : PySem.W.kitOne K (.type (tyD d)) (.type T) = some (isaD T d) := by
  cases h <;> rcases hT with rfl | rfl | rfl | rfl | rfl | rfl <;> (refine kit_ty ?_; first | decide +kernel | rfl)
theorem de_isa {W : WX} {a : Expr} {fa : List S → M S} {p p2 pos : Pos} {T : String} {TS : Str} (ha : DE X W a fa) (hm : X.mg "isinstance" = none) (hmT : X.mg TS = none) (hT : T = "int" ∨ T = "bool" ∨ T = "str" ∨ T = "list" ∨ T = "tuple" ∨ T = "dict") (hv : bootBuiltins TS = some (.type T)) (hg : Gl X "isinstance" := by rfl) (hgT : Gl X TS := by rfl)
    (hn : TS ≠ "__name__" := by decide) (hdb : (TS == ("__debug__" : Str)) = false := by decide)
    (h1 : starEach [a, .Name TS p2] X.env = (false, eval a X.env) :: starEach [.Name TS p2] X.env := by rfl) (h2 : starEach [.Name TS p2] X.env = (false, eval (.Name TS p2) X.env) :: starEach [] X.env := by rfl) (h3 : (backTo pos (starEach [.Name TS p2] X.env)).any (·.1) = false := by rfl) :
    DE X W (.Call (.Name "isinstance" p) [a, .Name TS p2] [] pos) (eIsa T fa) := by
  obtain ⟨ta, pa, ka⟩ := ha
  refine ⟨_, pe_callB call_isi hg hm (by decide +kernel) (pa_cons pa (pa_cons (pe_bltn (v := .ty T) hgT hmT hv rfl hn hdb) pa_nil h2) h1) (by decide) (by decide) h1 h3, fun B ca ρ cs Hf σ H Q r h => ?_⟩
  refine op1_run ka r h fun ca2 Hf2 H2 cs2 x da z n2 r2 hx hz h2 => ?_
  cases hz
  exact ⟨x, .ty T, _, _, _, rfl, .ty T, ty_dd hx.1, kit_isa hx.1 hT, h2.ret_ r2 _ (.bl _)⟩
end
end Dn

set_option Elab.async false
set_option linter.all false
set_option maxRecDepth 100000
set_option maxHeartbeats 1000000
/-! Dn5: statements, loops, defs, calls. -/
namespace Dn
open PySem L2
inductive Out where
  | nx (ρ : List S) (cs : Store)
  | rt (r : Rv) (cs : Store)
  | bk (ρ : List S) (cs : Store)
  | ct (ρ : List S) (cs : Store)
  | er (c : Str) (ρ : List S) (cs : Store)
  | no
abbrev G := List S → Store → Out
section
variable (X : Cx) (W : WX)
def GO (B : Hp) (ca : List Addr) (Hf : Hp) (En : Ends) : Out → Prop
  | .nx ρ cs => ∀ ca' Hf' σ' H', Nx ca Hf ca' Hf' → Rel B ca' ρ cs Hf' σ' H' → En.nx σ' H'
  | .rt r cs => ∀ ca' Hf' ρ' σ' H' v, Nx ca Hf ca' Hf' → Rel B ca' ρ' cs Hf' σ' H' → RvOk B ca' Hf' H' r v → En.rt v H'
  | .bk ρ cs => ∀ ca' Hf' σ' H', Nx ca Hf ca' Hf' → Rel B ca' ρ cs Hf' σ' H' → En.bk σ' H'
  | .ct ρ cs => ∀ ca' Hf' σ' H', Nx ca Hf ca' Hf' → Rel B ca' ρ cs Hf' σ' H' → En.ct σ' H'
  | .er c ρ cs => ∀ ca' Hf' σ' H' cls, Nx ca Hf ca' Hf' → Rel B ca' ρ cs Hf' σ' H' → X.mg c = some cls → W cls none σ' H'
  | .no => False
abbrev KS (t : TS) (g : G) : Prop := ∀ (B : Hp) (ca : List Addr) (ρ : List S) (cs : Store) (Hf : Hp) (σ : L2.St) (H : Hp) (En : Ends), Rel B ca ρ cs Hf σ H → GO X W B ca Hf En (g ρ cs) → t En σ H
def DSt (st : Stmt) (g : G) : Prop := ∃ t : TS, PS X st t ∧ KS X W t g
def DSs (st : List Stmt) (g : G) : Prop := ∃ t : TS, PSs X st t ∧ KS X W t g
end
def stp {α : Type} (m : M α) (k : α → Store → Out) (ρ : List S) (cs : Store) : Out := match m cs with
  | .ok a cs' => k a cs'
  | .er c cs' => .er c ρ cs'
  | .no => .no
def gNil : G := fun ρ cs => .nx ρ cs
def gSeq (g h : G) : G := fun ρ cs => match g ρ cs with
  | .nx ρ' cs' => h ρ' cs'
  | o => o
def sSet (i : Nat) (f : List S → M S) : G := fun ρ => stp (f ρ) (fun s cs => .nx (ρ.set i s) cs) ρ
def sNew (i : Nat) (f : List S → M Rv) : G := fun ρ => stp (f ρ) (fun r cs => match r with
  | .own o => .nx (ρ.set i (.cel cs.length)) (cs ++ [o])
  | .d x => .nx (ρ.set i (.d x)) cs
  | .cel j => .nx (ρ.set i (.cel j)) cs) ρ
def sRet (f : List S → M Rv) : G := fun ρ => stp (f ρ) (fun r cs => .rt r cs) ρ
def sRetN : G := fun _ cs => .rt (.d .none) cs
def sExp (f : List S → M S) : G := fun ρ => stp (f ρ) (fun _ cs => .nx ρ cs) ρ
def sIf (t : List S → M Bool) (g h : G) : G := fun ρ => stp (t ρ) (fun b cs => if b = true then g ρ cs else h ρ cs) ρ
def sErr (c : Str) : G := fun ρ cs => .er c ρ cs
def gPass : G := fun ρ cs => .nx ρ cs
def gBrk : G := fun ρ cs => .bk ρ cs
def gCon : G := fun ρ cs => .ct ρ cs
def gNo : G := fun _ _ => .no
section
variable {X : Cx} {W : WX} {B : Hp} {ca ca1 : List Addr} {Hf Hf1 H : Hp} {ρ : List S} {σ : L2.St} {cs : Store} {En En' : Ends} {α : Type}
theorem GO.fwd {o : Out} (h : GO X W B ca Hf En o) (n : Nx ca Hf ca1 Hf1) : GO X W B ca1 Hf1 En o := by
  cases o with
  | nx ρ cs => exact fun ca' Hf' σ' H' n' r => h ca' Hf' σ' H' (n.trans n') r
  | rt v cs => exact fun ca' Hf' ρ' σ' H' v n' r => h ca' Hf' ρ' σ' H' v (n.trans n') r
  | bk ρ cs => exact fun ca' Hf' σ' H' n' r => h ca' Hf' σ' H' (n.trans n') r
  | ct ρ cs => exact fun ca' Hf' σ' H' n' r => h ca' Hf' σ' H' (n.trans n') r
  | er c ρ cs => exact fun ca' Hf' σ' H' cls n' r => h ca' Hf' σ' H' cls (n.trans n') r
  | no => exact h
theorem GO.stp_ {m : M α} {k : α → Store → Out} (h : GO X W B ca Hf En (stp m k ρ cs)) : Gs X W B ca Hf ρ σ (m cs) (fun ca1 Hf1 _ cs1 a => GO X W B ca1 Hf1 En (k a cs1)) := by
  unfold stp at h
  cases e : m cs with
  | ok a cs1 => rw [e] at h; exact fun ca1 Hf1 H1 n r => GO.fwd h n
  | er c cs1 => rw [e] at h; exact fun ca' Hf' H' cls n r => h ca' Hf' σ H' cls n r
  | no => rw [e] at h; exact h
theorem GO.nx_ (h : GO X W B ca Hf En (.nx ρ cs)) (r : Rel B ca ρ cs Hf σ H) : En.nx σ H := h ca Hf σ H Nx.refl r
end
section
variable {X : Cx} {W : WX} {st : Stmt} {sts : List Stmt} {g h : G} {a : Expr} {f : List S → M S} {fr : List S → M Rv} {pos : Pos}
theorem dss_nil : DSs X W [] gNil := ⟨_, pss_nil, fun B ca ρ cs Hf σ H En r h => h.nx_ r⟩
theorem dss_one (hs : DSt X W st g) : DSs X W [st] g := let ⟨t, p, k⟩ := hs; ⟨t, pss_one p, k⟩
theorem dss_cons (hs : DSt X W st g) (ht : DSs X W sts h) : DSs X W (st :: sts) (gSeq g h) := by
  obtain ⟨t, p, k⟩ := hs
  obtain ⟨u, q, l⟩ := ht
  refine ⟨_, pss_cons p q, fun B ca ρ cs Hf σ H En r hg => ?_⟩
  refine k B ca ρ cs Hf σ H { En with nx := u En } r ?_
  unfold gSeq at hg
  cases e : g ρ cs with
  | nx ρ' cs' => rw [e] at hg; exact fun ca' Hf' σ' H' n r' => l B ca' ρ' cs' Hf' σ' H' En r' (GO.fwd hg n)
  | rt v cs' => rw [e] at hg; exact hg
  | bk ρ' cs' => rw [e] at hg; exact hg
  | ct ρ' cs' => rw [e] at hg; exact hg
  | er c ρ' cs' => rw [e] at hg; exact hg
  | no => rw [e] at hg; exact hg
theorem dst_pass : DSt X W (.Pass pos) gPass := ⟨_, ps_pass, fun B ca ρ cs Hf σ H En r h => h.nx_ r⟩
theorem dst_brk : DSt X W (.Break pos) gBrk := ⟨_, ps_break, fun B ca ρ cs Hf σ H En r h => h ca Hf σ H Nx.refl r⟩
theorem dst_con : DSt X W (.Continue pos) gCon := ⟨_, ps_continue, fun B ca ρ cs Hf σ H En r h => h ca Hf σ H Nx.refl r⟩
theorem dst_no : DSt X W st gNo := ⟨_, ps_never, fun B ca ρ cs Hf σ H En r h => h.elim⟩
theorem dst_set (i : Nat) {x : Str} {pos' : Pos} (hN : X.N.Nodup) (ha : DE X W a f) (hi : X.N[i]? = some x := by rfl) (hx : Loc X.env.scope x := by first | exact Or.inl rfl | exact Or.inr rfl) (hs : swapsWith a (some (.Name x pos')) pos.line X.env = pure false := by rfl)
    (hf : X.fn x = true ∨ X.env.scope.names.lookup x = some .local := by first | exact .inl rfl | exact .inr rfl) : DSt X W (.Assign [.Name x pos'] a pos) (sSet i f) := by
  obtain ⟨t, p, k⟩ := ha
  refine ⟨_, ps_set hN hi hx p hs hf, fun B ca ρ cs Hf σ H En r hg => ?_⟩
  refine k B ca ρ cs Hf σ H _ r (hg.stp_.mono fun ca1 Hf1 H1 cs1 s n1 r1 h1 v hv => ?_)
  exact h1.nx_ (r1.set i hv)
theorem dst_new (i : Nat) {x : Str} {pos' : Pos} (hN : X.N.Nodup) (ha : DO X W a fr) (hi : X.N[i]? = some x := by rfl) (hx : Loc X.env.scope x := by first | exact Or.inl rfl | exact Or.inr rfl) (hs : swapsWith a (some (.Name x pos')) pos.line X.env = pure false := by rfl)
    (hf : X.fn x = true ∨ X.env.scope.names.lookup x = some .local := by first | exact .inl rfl | exact .inr rfl) : DSt X W (.Assign [.Name x pos'] a pos) (sNew i fr) := by
  obtain ⟨t, p, k⟩ := ha
  refine ⟨_, ps_set hN hi hx p hs hf, fun B ca ρ cs Hf σ H En r hg => ?_⟩
  refine k B ca ρ cs Hf σ H _ r (hg.stp_.mono fun ca1 Hf1 H1 cs1 rv n1 r1 h1 v hv => ?_)
  cases rv with
  | d x => exact h1.nx_ (r1.set (s := .d x) i hv)
  | cel j => exact h1.nx_ (r1.set (s := .cel j) i hv)
  | own o =>
    obtain ⟨a, rfl, r2, e2⟩ := r1.alloc hv
    exact h1 (ca1 ++ [a]) Hf1 _ H1 ⟨List.prefix_append _ _, fun _ _ h => h⟩ (r2.set (s := .cel cs1.length) i ⟨a, e2, rfl⟩)
theorem dst_ret (ha : DO X W a fr) : DSt X W (.Return (some a) pos) (sRet fr) := by
  obtain ⟨t, p, k⟩ := ha
  refine ⟨_, ps_ret p, fun B ca ρ cs Hf σ H En r hg => ?_⟩
  exact k B ca ρ cs Hf σ H _ r (hg.stp_.mono fun ca1 Hf1 H1 cs1 rv n1 r1 h1 v hv => h1 ca1 Hf1 ρ σ H1 v Nx.refl r1 hv)
theorem dst_retE (ha : DE X W a f) : DSt X W (.Return (some a) pos) (sRet (eRv f)) := dst_ret ha.rv
theorem dst_retN : DSt X W (.Return none pos) sRetN := ⟨_, ps_retN, fun B ca ρ cs Hf σ H En r h => h ca Hf ρ σ H _ Nx.refl r .non⟩
theorem dst_exp (ha : DE X W a f) (hs : swapsWith a none pos.line X.env = pure false := by rfl) : DSt X W (.Expr a pos) (sExp f) := by
  obtain ⟨t, p, k⟩ := ha
  refine ⟨_, ps_expr p hs, fun B ca ρ cs Hf σ H En r hg => ?_⟩
  exact k B ca ρ cs Hf σ H _ r (hg.stp_.mono fun ca1 Hf1 H1 cs1 rv n1 r1 h1 v hv => h1.nx_ r1)
theorem dst_if {t : List S → M Bool} {p q : List Stmt} (hc : DT X W a t) (hp : DSs X W p g) (hq : DSs X W q h) : DSt X W (.If a p q pos) (sIf t g h) := by
  obtain ⟨tc, pc, kc⟩ := hc
  obtain ⟨tp, pp, kp⟩ := hp
  obtain ⟨tq, pq, kq⟩ := hq
  refine ⟨_, ps_if pc pp pq, fun B ca ρ cs Hf σ H En r hg => ?_⟩
  refine kc B ca ρ cs Hf σ H _ r (hg.stp_.mono fun ca1 Hf1 H1 cs1 b n1 r1 h1 => ?_)
  cases b with
  | true => exact kp B ca1 ρ cs1 Hf1 σ H1 En r1 h1
  | false => exact kq B ca1 ρ cs1 Hf1 σ H1 En r1 h1
/-- raise X('..') -/
theorem dst_raise {C : Addr} {x m : Str} {j : Nat} {p p2 p3 : Pos} {bmB : List Value} {Bn newId initId : String} (tk : Takes X W) (F : ExcBaseFacts Bn newId initId bmB) (q : PySem.W.excIn X.K C bmB newId = true) (gC : X.mg x = some (.ref C)) (kC : PySem.W.keepIn X.K (.ref C) = true) (rs : Raises X (.ref C))
    (hc : X.calm = true := by rfl) (hg : Gl X x := by rfl) (hdb : (x == ("__debug__" : Str)) = false := by decide) : DSt X W (.Raise (some (.Call (.Name x p) [.Constant (.str m) j p2] [] p3)) none pos) (sErr x) :=
  ⟨_, ps_raise hc tk (pmk_own F q gC kC rs hg hdb), fun B ca ρ cs Hf σ H En r h => h ca Hf σ H _ Nx.refl r gC⟩
end

/-! ### loops -/
def gFor (tg : D → List S → Option (List S)) (body : G) : List D → G
  | [], ρ, cs => .nx ρ cs
  | x :: xs, ρ, cs => match tg x ρ with
    | none => .no
    | some ρ1 => match body ρ1 cs with
      | .nx ρ' cs' => gFor tg body xs ρ' cs'
      | .ct ρ' cs' => gFor tg body xs ρ' cs'
      | .bk ρ' cs' => .nx ρ' cs'
      | .rt r cs' => .rt r cs'
      | .er c ρ' cs' => .er c ρ' cs'
      | .no => .no
/-- a target -/
def DG (X : Cx) (tg : Expr) (g : D → List S → Option (List S)) : Prop := ∃ t : TG, PG X tg t ∧ ∀ (B : Hp) (ca : List Addr) (ρ ρ' : List S) (cs : Store) (Hf : Hp) (σ : L2.St) (H : Hp) (v : V) (d : D) (Q : L2.St → Hp → Prop), Rel B ca ρ cs Hf σ H → Dd Hf v d → g d ρ = some ρ' →
  (∀ σ', Rel B ca ρ' cs Hf σ' H → Q σ' H) → t v σ H Q
def gtN (i : Nat) (d : D) (ρ : List S) : Option (List S) := some (ρ.set i (.d d))
def gtT (gs : List D → List S → Option (List S)) (d : D) (ρ : List S) : Option (List S) := match d with
  | .tuple xs => gs xs ρ
  | _ => none
def gtsNil (xs : List D) (ρ : List S) : Option (List S) := match xs with
  | [] => some ρ
  | _ => none
def gtsCons (g : D → List S → Option (List S)) (gs : List D → List S → Option (List S)) (xs : List D) (ρ : List S) : Option (List S) := match xs with
  | x :: r => (g x ρ).bind (gs r)
  | [] => none
def DGs (X : Cx) (tgs : List Expr) (g : List D → List S → Option (List S)) : Prop := ∃ t : TGs, PGs X tgs t ∧ ∀ (B : Hp) (ca : List Addr) (ρ ρ' : List S) (cs : Store) (Hf : Hp) (σ : L2.St) (H : Hp) (vs : List V) (ds : List D) (Q : L2.St → Hp → Prop), Rel B ca ρ cs Hf σ H → Dds Hf vs ds → g ds ρ = some ρ' →
  (∀ σ', Rel B ca ρ' cs Hf σ' H → Q σ' H) → t vs σ H Q
section
variable {X : Cx} {pos : Pos}
theorem dg_name (i : Nat) {x : Str} (hN : X.N.Nodup) (hi : X.N[i]? = some x := by rfl) (hx : Loc X.env.scope x := by first | exact Or.inl rfl | exact Or.inr rfl)
    (hf : X.fn x = true ∨ X.env.scope.names.lookup x = some .local := by first | exact .inl rfl | exact .inr rfl) : DG X (.Name x pos) (gtN i) := by
  refine ⟨_, pg_name hN hi hx hf, fun B ca ρ ρ' cs Hf σ H v d Q r hv e q => ?_⟩
  cases e
  exact q _ (r.set i hv)
theorem dgs_nil : DGs X [] gtsNil := by
  refine ⟨_, pgs_nil, fun B ca ρ ρ' cs Hf σ H vs ds Q r hv e q => ?_⟩
  unfold gtsNil at e
  split at e
  · cases e
    cases hv
    exact ⟨rfl, q _ r⟩
  · cases e
theorem dgs_cons {tg : Expr} {tgs : List Expr} {g : D → List S → Option (List S)} {gs : List D → List S → Option (List S)} (h : DG X tg g) (hs : DGs X tgs gs)
    (he : (assignEach (tg :: tgs) X.env).map (·.2) = assign tg X.env :: (assignEach tgs X.env).map (·.2) := by rfl) : DGs X (tg :: tgs) (gtsCons g gs) := by
  obtain ⟨t, p, k⟩ := h
  obtain ⟨u, q, l⟩ := hs
  refine ⟨_, pgs_cons p q he, fun B ca ρ ρ' cs Hf σ H vs ds Q r hv e qq => ?_⟩
  unfold gtsCons at e
  split at e
  · rename_i x xs
    cases hv with
    | cons hv ht =>
      cases z : g x ρ with
      | none => rw [z] at e; cases e
      | some ρ1 =>
        rw [z] at e
        exact ⟨_, _, rfl, k B ca ρ ρ1 cs Hf σ H _ _ _ r hv z fun σ1 r1 => l B ca ρ1 ρ' cs Hf σ1 H _ _ Q r1 ht e qq⟩
  · cases e
theorem dg_tup {es : List Expr} {k : Nat} {gs : List D → List S → Option (List S)} (n : Nat) (hs : DGs X es gs) (hl : ∀ ds ρ ρ', gs ds ρ = some ρ' → ds.length = n) (hc : X.calm = true := by rfl)
    (hn : (assignEach es X.env).length = n := by rfl) (hst : (assignEach es X.env).findIdx? (·.1) = none := by rfl) : DG X (.Tuple es k pos) (gtT gs) := by
  obtain ⟨u, q, l⟩ := hs
  refine ⟨_, pg_tup hc q hn hst, fun B ca ρ ρ' cs Hf σ H v d Q r hv e qq => ?_⟩
  unfold gtT at e
  split at e
  · rename_i xs
    cases hv with
    | tup h1 h2 =>
      exact ⟨_, _, rfl, .inl (rd_ex r.ext h1), (dps_len h2).trans (hl _ _ _ e), l B ca ρ ρ' cs Hf σ H _ _ Q r h2 e qq⟩
  · cases e
end
theorem gts_len0 (ds : List D) (ρ ρ' : List S) (h : gtsNil ds ρ = some ρ') : ds.length = 0 := by
  unfold gtsNil at h
  split at h
  · rfl
  · cases h
theorem gts_lenS {g : D → List S → Option (List S)} {gs : List D → List S → Option (List S)} {n : Nat} (hl : ∀ ds ρ ρ', gs ds ρ = some ρ' → ds.length = n) (ds : List D) (ρ ρ' : List S) (h : gtsCons g gs ds ρ = some ρ') : ds.length = n + 1 := by
  unfold gtsCons at h
  split at h
  · rename_i x r
    cases z : g x ρ with
    | none => rw [z] at h; cases h
    | some ρ1 => rw [z] at h; rw [List.length_cons, hl _ _ _ h]
  · cases h

/-- what is walked: the items are given ahead of the first turn -/
def DI (X : Cx) (W : WX) (tg iter : Expr) (f : List S → M (List D)) : Prop := ∃ wi : TI, PI X tg iter wi ∧ ∀ (B : Hp) (ca : List Addr) (ρ : List S) (cs : Store) (Hf : Hp) (σ : L2.St) (H : Hp) (R : It → Hp → Prop), Rel B ca ρ cs Hf σ H →
  Gs X W B ca Hf ρ σ (f ρ cs) (fun ca' Hf' H' cs' xs => ∀ J, (∀ B2 ca2 ρ2 cs2 Hf2 σ2 H2 (i : Nat), Nx ca' Hf' ca2 Hf2 → Rel B2 ca2 ρ2 cs2 Hf2 σ2 H2 → i ≤ xs.length →
      (i = xs.length → J.stop i H2) ∧ (i < xs.length → J.go i H2 ∧ ∀ x H3, J.yld i H2 x H3 → ∃ Hf3, Nx ca2 Hf2 ca2 Hf3 ∧ Rel B2 ca2 ρ2 cs2 Hf3 σ2 H3 ∧ ∃ d, xs[i]? = some d ∧ Dd Hf3 x d)) → R J H') → wi σ H R
def iSeq (f : List S → M S) (ρ : List S) : M (List D) := bnd (f ρ) fun s => match s with
  | .d (.list xs) => ret xs
  | _ => stuck
def iTupM (f : List S → M S) (ρ : List S) : M (List D) := bnd (f ρ) fun s => match s with
  | .d (.tuple xs) => ret xs
  | _ => stuck
def rngD (lo : Int) (n : Nat) : List D := (List.range n).map fun i => .int (lo + (i : Nat))
def iRng (f : List S → M S) (ρ : List S) : M (List D) := bnd (f ρ) fun s => match s with
  | .d (.int j) => if -(2 ^ 62) ≤ j ∧ j < 2 ^ 62 then ret (rngD 0 j.toNat) else stuck
  | _ => stuck
def iRngTwo (f g : List S → M S) (ρ : List S) : M (List D) := bnd (f ρ) fun s => bnd (g ρ) fun s' => match s, s' with
  | .d (.int i), .d (.int j) => if -(2 ^ 62) ≤ i ∧ i < 2 ^ 62 ∧ -(2 ^ 62) ≤ j ∧ j < 2 ^ 62 then ret (rngD i (j - i).toNat) else stuck
  | _, _ => stuck
theorem rngD_get {lo : Int} {n i : Nat} (h : i < n) : (rngD lo n)[i]? = some (.int (lo + (i : Nat))) := by
  unfold rngD
  rw [List.getElem?_map, List.getElem?_range h]; rfl
theorem rngD_len {lo : Int} {n : Nat} : (rngD lo n).length = n := by unfold rngD; simp
section
variable {X : Cx} {W : WX} {a b tg : Expr} {fa fb : List S → M S} {pos : Pos}
theorem rdl_inj {Hh : Hp} {a : Addr} {xs ys : List V} (h : Rd Hh a (.lst xs)) (h' : SqL X.K Hh a ys) (I : ∀ K : PySem.W.Frag, True) : True := trivial
theorem di_list (ha : DE X W a fa) : DI X W tg a (iSeq fa) := by
  obtain ⟨t, p, k⟩ := ha
  refine ⟨_, pi_list p, fun B ca ρ cs Hf σ H R r h => ?_⟩
  refine k B ca ρ cs Hf σ H _ r (h.bind.mono fun ca1 Hf1 H1 cs1 s n1 r1 h1 v hv => ?_)
  cases s with
  | d x =>
    cases x with
    | list xs =>
      have hv' : Dd Hf1 v (.list xs) := hv
      cases hv' with
      | lst g1 g2 =>
        rename_i l vs
        refine ⟨l, rfl, ⟨vs, .inl (rd_ex r1.ext g1)⟩, ?_⟩
        refine (h1.ret_ r1) _ fun B2 ca2 ρ2 cs2 Hf2 σ2 H2 i n2 r2 hi => ⟨fun e => ⟨vs, .inl (rd_ex (fun a o h => r2.ext a o (n2.ex a o h)) g1), by rw [dps_len g2]; omega⟩, fun hi' => ?_⟩
        have hx : xs[i]? = some xs[i] := by simp [hi']
        obtain ⟨w, e1, e2⟩ := dps_get g2 hx
        refine ⟨⟨vs, w, .inl (rd_ex (fun a o h => r2.ext a o (n2.ex a o h)) g1), e1⟩, fun x H3 y => ?_⟩
        obtain ⟨rfl, y⟩ := y
        have y1 := y vs (.inl (rd_ex (fun a o h => r2.ext a o (n2.ex a o h)) g1))
        rw [e1] at y1
        cases y1
        exact ⟨Hf2, Nx.refl, r2, xs[i], hx, dp_ex n2.ex e2⟩
    | _ => exact h1.elim
  | _ => exact h1.elim
theorem di_tup (ha : DE X W a fa) : DI X W tg a (iTupM fa) := by
  obtain ⟨t, p, k⟩ := ha
  refine ⟨_, pi_tup p, fun B ca ρ cs Hf σ H R r h => ?_⟩
  refine k B ca ρ cs Hf σ H _ r (h.bind.mono fun ca1 Hf1 H1 cs1 s n1 r1 h1 v hv => ?_)
  cases s with
  | d x =>
    cases x with
    | tuple xs =>
      have hv' : Dd Hf1 v (.tuple xs) := hv
      cases hv' with
      | tup g1 g2 =>
        rename_i l vs
        refine ⟨l, rfl, ⟨vs, .inl (rd_ex r1.ext g1)⟩, ?_⟩
        refine (h1.ret_ r1) _ fun B2 ca2 ρ2 cs2 Hf2 σ2 H2 i n2 r2 hi => ⟨fun e => ⟨vs, .inl (rd_ex (fun a o h => r2.ext a o (n2.ex a o h)) g1), by rw [dps_len g2]; omega⟩, fun hi' => ?_⟩
        have hx : xs[i]? = some xs[i] := by simp [hi']
        obtain ⟨w, e1, e2⟩ := dps_get g2 hx
        refine ⟨⟨vs, w, .inl (rd_ex (fun a o h => r2.ext a o (n2.ex a o h)) g1), e1⟩, fun x H3 y => ?_⟩
        obtain ⟨rfl, y⟩ := y
        have y1 := y vs (.inl (rd_ex (fun a o h => r2.ext a o (n2.ex a o h)) g1))
        rw [e1] at y1
        cases y1
        exact ⟨Hf2, Nx.refl, r2, xs[i], hx, dp_ex n2.ex e2⟩
    | _ => exact h1.elim
  | _ => exact h1.elim
theorem di_rng {p : Pos} (ha : DE X W a fa) (hm : X.mg "range" = none) (hg : Gl X "range" := by rfl) (hs : starEach [a] X.env = [(false, eval a X.env)] := by rfl) : DI X W tg (.Call (.Name "range" p) [a] [] pos) (iRng fa) := by
  obtain ⟨t, q, k⟩ := ha
  refine ⟨_, pi_range1 hg hm (pa_cons q pa_nil hs) hs, fun B ca ρ cs Hf σ H R r h => ?_⟩
  refine k B ca ρ cs Hf σ H _ r (h.bind.mono fun ca1 Hf1 H1 cs1 s n1 r1 h1 v hv => ?_)
  cases s with
  | d x =>
    cases x with
    | int j =>
      have hv' : Dd Hf1 v (.int j) := hv
      cases hv'
      have h2 : Gs X W B ca1 Hf1 ρ σ ((if -(2 ^ 62) ≤ j ∧ j < 2 ^ 62 then ret (rngD 0 j.toNat) else stuck) cs1) _ := h1
      split at h2
      · rename_i hz
        refine ⟨j, rfl, hz.1, hz.2, ?_⟩
        refine (h2.ret_ r1) _ fun B2 ca2 ρ2 cs2 Hf2 σ2 H2 i n2 r2 hi => ⟨fun e => ?_, fun hi' => ?_⟩
        · rw [rngD_len] at e; exact Nat.le_of_eq e.symm
        · rw [rngD_len] at hi'
          refine ⟨hi', fun x H3 y => ?_⟩
          obtain ⟨rfl, rfl⟩ := y
          exact ⟨Hf2, Nx.refl, r2, _, rngD_get hi', .int _⟩
      · exact h2.elim
    | _ => exact h1.elim
  | _ => exact h1.elim
theorem di_rng2 {p : Pos} (ha : DE X W a fa) (hb : DE X W b fb) (hm : X.mg "range" = none) (hg : Gl X "range" := by rfl) (hs : starEach [a, b] X.env = [(false, eval a X.env), (false, eval b X.env)] := by rfl) (hs2 : starEach [b] X.env = [(false, eval b X.env)] := by rfl) :
    DI X W tg (.Call (.Name "range" p) [a, b] [] pos) (iRngTwo fa fb) := by
  obtain ⟨t, q, k⟩ := ha
  obtain ⟨t', q', k'⟩ := hb
  refine ⟨_, pi_range2 hg hm (pa_cons q (pa_cons q' pa_nil hs2) (by rw [hs, hs2])) hs hs2, fun B ca ρ cs Hf σ H R r h => ?_⟩
  refine k B ca ρ cs Hf σ H _ r (h.bind.mono fun ca1 Hf1 H1 cs1 s n1 r1 h1 v hv => ?_)
  refine k' B ca1 ρ cs1 Hf1 σ H1 _ r1 (h1.bind.mono fun ca2 Hf2 H2 cs2 s' n2 r2 h2 v' hv' => ?_)
  cases s with
  | d x =>
    cases x with
    | int i =>
      cases s' with
      | d x' =>
        cases x' with
        | int j =>
          have hv1 : Dd Hf1 v (.int i) := hv
          cases hv1
          have hv2 : Dd Hf2 v' (.int j) := hv'
          cases hv2
          have h3 : Gs X W B ca2 Hf2 ρ σ ((if -(2 ^ 62) ≤ i ∧ i < 2 ^ 62 ∧ -(2 ^ 62) ≤ j ∧ j < 2 ^ 62 then ret (rngD i (j - i).toNat) else stuck) cs2) _ := h2
          split at h3
          · rename_i hz
            refine ⟨i, j, rfl, hz, ?_⟩
            refine (h3.ret_ r2) _ fun B3 ca3 ρ3 cs3 Hf3 σ3 H3 m n3 r3 hm => ⟨fun e => ?_, fun hm' => ?_⟩
            · rw [rngD_len] at e; exact Nat.le_of_eq e.symm
            · rw [rngD_len] at hm'
              refine ⟨hm', fun x H4 y => ?_⟩
              obtain ⟨rfl, rfl⟩ := y
              exact ⟨Hf3, Nx.refl, r3, _, rngD_get hm', .int _⟩
          · exact h3.elim
        | _ => exact h2.elim
      | _ => exact h2.elim
    | _ => exact h2.elim
  | _ => exact h2.elim
def sFor (tg : D → List S → Option (List S)) (it : List S → M (List D)) (body : G) : G := fun ρ => stp (it ρ) (fun xs cs => gFor tg body xs ρ cs) ρ
theorem dst_for {body : List Stmt} {g : D → List S → Option (List S)} {it : List S → M (List D)} {gb : G} (hp : PassesOwn (model X.prog X.w) X.A X.env X.xe) (hi : DI X W tg a it) (hg : DG X tg g) (hb : DSs X W body gb) (hc : X.calm = true := by rfl)
    (hs : ∀ x, foldedSetIterable a X.env x = pure x := by intro _; rfl) : DSt X W (.For tg a body [] pos) (sFor g it gb) := by
  obtain ⟨wi, pi, ki⟩ := hi
  obtain ⟨tgt, pg, kg⟩ := hg
  obtain ⟨tb, pb, kb⟩ := hb
  refine ⟨_, ps_for hp hc pi pg pb hs, fun B ca ρ cs Hf σ H En r h => ?_⟩
  refine ki B ca ρ cs Hf σ H _ r (h.stp_.mono fun ca1 Hf1 H1 cs1 xs n1 r1 h1 J hJ => ?_)
  refine ⟨fun i m σ2 H2 => m = xs.length - i ∧ i ≤ xs.length ∧ ∃ ca2 ρ2 cs2 Hf2, Nx ca1 Hf1 ca2 Hf2 ∧ Rel B ca2 ρ2 cs2 Hf2 σ2 H2 ∧ GO X W B ca2 Hf2 En (gFor g gb (xs.drop i) ρ2 cs2), ⟨xs.length, by simp, Nat.zero_le _, ca1, ρ, cs1, Hf1, Nx.refl, r1, h1⟩, ?_⟩
  rintro i m σ2 H2 ⟨rfl, hi, ca2, ρ2, cs2, Hf2, n2, r2, h2⟩
  obtain ⟨hstop, hgo⟩ := hJ B ca2 ρ2 cs2 Hf2 σ2 H2 i n2 r2 hi
  by_cases hlt : i < xs.length
  · obtain ⟨go, yl⟩ := hgo hlt
    refine .inr ⟨go, fun σ' H' => i + 1 ≤ xs.length ∧ ∃ ca2 ρ2 cs2 Hf2, Nx ca1 Hf1 ca2 Hf2 ∧ Rel B ca2 ρ2 cs2 Hf2 σ' H' ∧ GO X W B ca2 Hf2 En (gFor g gb (xs.drop (i + 1)) ρ2 cs2), fun σ' H' p' => ⟨xs.length - (i + 1), by omega, rfl, p'.1, p'.2⟩, fun x H3 y => ?_⟩
    obtain ⟨Hf3, n3, r3, d, ed, hd⟩ := yl x H3 y
    have ed' : xs.drop i = d :: xs.drop (i + 1) := by
      rw [List.drop_eq_getElem_cons hlt]
      rw [List.getElem?_eq_getElem hlt] at ed
      rw [Option.some.inj ed]
    rw [ed'] at h2
    have h2' : GO X W B ca2 Hf2 En (match g d ρ2 with
      | none => .no
      | some ρ1 => match gb ρ1 cs2 with
        | .nx ρ' cs' => gFor g gb (xs.drop (i + 1)) ρ' cs'
        | .ct ρ' cs' => gFor g gb (xs.drop (i + 1)) ρ' cs'
        | .bk ρ' cs' => .nx ρ' cs'
        | .rt r cs' => .rt r cs'
        | .er c ρ' cs' => .er c ρ' cs'
        | .no => .no) := h2
    cases eg : g d ρ2 with
    | none => rw [eg] at h2'; exact h2'.elim
    | some ρ1 =>
      rw [eg] at h2'
      have h3 : GO X W B ca2 Hf2 En (match gb ρ1 cs2 with
        | .nx ρ' cs' => gFor g gb (xs.drop (i + 1)) ρ' cs'
        | .ct ρ' cs' => gFor g gb (xs.drop (i + 1)) ρ' cs'
        | .bk ρ' cs' => .nx ρ' cs'
        | .rt r cs' => .rt r cs'
        | .er c ρ' cs' => .er c ρ' cs'
        | .no => .no) := h2'
      refine kg B ca2 ρ2 ρ1 cs2 Hf3 σ2 H3 x d _ r3 hd eg fun σ4 r4 => ?_
      refine kb B ca2 ρ1 cs2 Hf3 σ4 H3 _ r4 ?_
      have h4 := GO.fwd h3 n3
      cases eb : gb ρ1 cs2 with
      | nx ρ' cs' => rw [eb] at h4; exact fun ca' Hf' σ' H' n' r' => ⟨hlt, ca', ρ', cs', Hf', (n2.trans n3).trans n', r', GO.fwd h4 n'⟩
      | ct ρ' cs' => rw [eb] at h4; exact fun ca' Hf' σ' H' n' r' => ⟨hlt, ca', ρ', cs', Hf', (n2.trans n3).trans n', r', GO.fwd h4 n'⟩
      | bk ρ' cs' => rw [eb] at h4; exact fun ca' Hf' σ' H' n' r' => h4 ca' Hf' σ' H' n' r'
      | rt v cs' => rw [eb] at h4; exact h4
      | er c ρ' cs' => rw [eb] at h4; exact h4
      | no => rw [eb] at h4; exact h4.elim
  · have e : i = xs.length := by omega
    refine .inl ⟨hstop e, ?_⟩
    rw [e, List.drop_length] at h2
    exact GO.nx_ (show GO X W B ca2 Hf2 En (.nx ρ2 cs2) from h2) r2
def gWhile (t : List S → M Bool) (body : G) : Nat → G
  | 0, _, _ => .no
  | n + 1, ρ, cs => stp (t ρ) (fun b cs => if b = true then (match body ρ cs with
      | .nx ρ' cs' => gWhile t body n ρ' cs'
      | .ct ρ' cs' => gWhile t body n ρ' cs'
      | .bk ρ' cs' => .nx ρ' cs'
      | .rt r cs' => .rt r cs'
      | .er c ρ' cs' => .er c ρ' cs'
      | .no => .no) else .nx ρ cs) ρ cs
/-- the fuel may be any number -/
def sWhile (fuel : List S → Store → Nat) (t : List S → M Bool) (body : G) : G := fun ρ cs => gWhile t body (fuel ρ cs) ρ cs
theorem dst_while (fuel : List S → Store → Nat) {body : List Stmt} {t : List S → M Bool} {gb : G} (hp : PassesOwn (model X.prog X.w) X.A X.env X.xe) (hc : DT X W a t) (hb : DSs X W body gb) : DSt X W (.While a body [] pos) (sWhile fuel t gb) := by
  obtain ⟨tc, pc, kc⟩ := hc
  obtain ⟨tb, pb, kb⟩ := hb
  refine ⟨_, ps_while hp pc pb, fun B ca ρ cs Hf σ H En r h => ?_⟩
  refine ⟨fun m σ2 H2 => ∃ ca2 ρ2 cs2 Hf2, Rel B ca2 ρ2 cs2 Hf2 σ2 H2 ∧ GO X W B ca2 Hf2 En (gWhile t gb m ρ2 cs2), ⟨_, ca, ρ, cs, Hf, r, h⟩, ?_⟩
  rintro m σ2 H2 ⟨ca2, ρ2, cs2, Hf2, r2, h2⟩
  cases m with
  | zero => exact (show False from h2).elim
  | succ m =>
    have h2' : GO X W B ca2 Hf2 En (stp (t ρ2) (fun b cs => if b = true then (match gb ρ2 cs with
      | .nx ρ' cs' => gWhile t gb m ρ' cs'
      | .ct ρ' cs' => gWhile t gb m ρ' cs'
      | .bk ρ' cs' => .nx ρ' cs'
      | .rt r cs' => .rt r cs'
      | .er c ρ' cs' => .er c ρ' cs'
      | .no => .no) else .nx ρ2 cs) ρ2 cs2) := h2
    refine kc B ca2 ρ2 cs2 Hf2 σ2 H2 _ r2 (h2'.stp_.mono fun ca3 Hf3 H3 cs3 b n3 r3 h3 => ?_)
    cases b with
    | false => exact GO.nx_ (show GO X W B ca3 Hf3 En (.nx ρ2 cs3) from h3) r3
    | true =>
      have h4 : GO X W B ca3 Hf3 En (match gb ρ2 cs3 with
        | .nx ρ' cs' => gWhile t gb m ρ' cs'
        | .ct ρ' cs' => gWhile t gb m ρ' cs'
        | .bk ρ' cs' => .nx ρ' cs'
        | .rt r cs' => .rt r cs'
        | .er c ρ' cs' => .er c ρ' cs'
        | .no => .no) := h3
      refine ⟨fun σ' H' => ∃ ca2 ρ2 cs2 Hf2, Rel B ca2 ρ2 cs2 Hf2 σ' H' ∧ GO X W B ca2 Hf2 En (gWhile t gb m ρ2 cs2), fun σ' H' p' => ⟨m, Nat.lt_succ_self _, p'⟩, ?_⟩
      refine kb B ca3 ρ2 cs3 Hf3 σ2 H3 _ r3 ?_
      cases eb : gb ρ2 cs3 with
      | nx ρ' cs' => rw [eb] at h4; exact fun ca' Hf' σ' H' n' r' => ⟨ca', ρ', cs', Hf', r', GO.fwd h4 n'⟩
      | ct ρ' cs' => rw [eb] at h4; exact fun ca' Hf' σ' H' n' r' => ⟨ca', ρ', cs', Hf', r', GO.fwd h4 n'⟩
      | bk ρ' cs' => rw [eb] at h4; exact fun ca' Hf' σ' H' n' r' => h4 ca' Hf' σ' H' n' r'
      | rt v cs' => rw [eb] at h4; exact h4
      | er c ρ' cs' => rw [eb] at h4; exact h4
      | no => rw [eb] at h4; exact h4.elim
end
end Dn

set_option Elab.async false
set_option linter.all false
set_option maxRecDepth 100000
set_option maxHeartbeats 1000000
/-! Dn6: cells changed by methods and stores; defs and their calls. -/
namespace Dn
open PySem L2
/-- a method that changes the list of a cell: the answer, the new items -/
def rMt (g : List D → List D → Option (D × List D)) : V → List V → Hp → VK → Prop := fun x vs H Q => ∃ Hf l ws xs ds d ys, g xs ds = some (d, ys) ∧ Ex Hf H ∧ x = .ref l ∧ H l = some (.lst ws) ∧ Dds Hf ws xs ∧ Dds Hf vs ds ∧ xs.length ≤ sizeLine ∧
  ∀ v us, Dd Hf v d → Dds Hf us ys → Q v (upd H l (.lst us))
def celM (s : S) : M (Nat × List D) := fun cs => match s with
  | .cel j => match cs[j]? with
    | some (.lst xs) => .ok (j, xs) cs
    | _ => .no
  | _ => .no
def putM (j : Nat) (o : OC) : M Unit := fun cs => .ok () (cs.set j o)
def fin_ (g : List D → List D → Option (D × List D)) (s : S) (ss : List S) : M S :=
  bnd (celM s) fun p => bnd (ofO (asD ss)) fun ds => bnd (ofO (if p.2.length ≤ sizeLine then g p.2 ds else none)) fun q => bnd (putM p.1 (.lst q.2)) fun _ => ret (.d q.1)
def eMt (g : List D → List D → Option (D × List D)) (fo : List S → M S) (fa : List S → M (List S)) (ρ : List S) : M S := bnd (fo ρ) fun s => bnd (celM s) fun _ => bnd (fa ρ) fun ss => fin_ g s ss
def eMt0 (g : List D → List D → Option (D × List D)) (fo : List S → M S) (ρ : List S) : M S := bnd (fo ρ) fun s => fin_ g s []
def appG : List D → List D → Option (D × List D)
  | xs, [d] => if xs.length < sizeLine then some (.none, xs ++ [d]) else none
  | _, _ => none
def extG : List D → List D → Option (D × List D)
  | xs, [.list ys] => if xs.length + ys.length ≤ sizeLine then some (.none, xs ++ ys) else none
  | _, _ => none
def popG : List D → List D → Option (D × List D)
  | xs, [] => (xs[xs.length - 1]?).map fun d => (d, xs.dropLast)
  | _, _ => none
section
variable {X : Cx} {W : WX} {B : Hp} {ca : List Addr} {Hf H : Hp} {ρ : List S} {σ : L2.St} {cs : Store} {β : Type} {P : List Addr → Hp → Hp → Store → β → Prop}
theorem celM_ {a : S} {k : Nat × List D → M β} (h : Gs X W B ca Hf ρ σ (bnd (celM a) k cs) P) : ∃ j xs, a = .cel j ∧ cs[j]? = some (.lst xs) ∧ Gs X W B ca Hf ρ σ (k (j, xs) cs) P := by
  unfold bnd celM at h
  cases a with
  | cel j =>
    cases e : cs[j]? with
    | none => simp only [e] at h; exact h.elim
    | some o =>
      cases o with
      | lst xs => simp only [e] at h; exact ⟨j, xs, rfl, e, h⟩
      | dK _ => simp only [e] at h; exact h.elim
  | _ => exact h.elim
end
section
variable {X : Cx} {W : WX} {o e : Expr} {es : List Expr} {fo fb : List S → M S} {fa : List S → M (List S)} {name : Str} {id : String} {apos cpos pos : Pos} {g : List D → List D → Option (D × List D)}
theorem ty_cel {B : Hp} {ca : List Addr} {ρ : List S} {cs : Store} {Hf : Hp} {σ : L2.St} {H : Hp} {j : Nat} {xs : List D} {x : V} (r : Rel B ca ρ cs Hf σ H) (hx : SvOk ca Hf (.cel j) x) (e : cs[j]? = some (.lst xs)) :
    ∃ l ws, x = .ref l ∧ ca[j]? = some l ∧ H l = some (.lst ws) ∧ Dds Hf ws xs := by
  obtain ⟨l, h1, rfl⟩ := hx
  obtain ⟨ws, g1, g2⟩ := r.cell e h1
  exact ⟨l, ws, rfl, h1, g1, g2⟩
theorem fin_run {B : Hp} {ca : List Addr} {ρ : List S} {cs : Store} {Hf : Hp} {σ : L2.St} {H : Hp} {Q : VK} {s : S} {ss : List S} {x : V} {vs : List V} (r : Rel B ca ρ cs Hf σ H) (hx : SvOk ca Hf s x) (hv : SvsOk ca Hf ss vs)
    (h : Gs X W B ca Hf ρ σ (fin_ g s ss cs) (fun ca' Hf' H' _ s => ∀ v, SvOk ca' Hf' s v → Q v H')) : rMt g x vs H Q := by
  obtain ⟨j, xs, rfl, e1, h1⟩ := celM_ h
  obtain ⟨ds, e2, h2⟩ := ofOb_ h1
  obtain ⟨q, e3, h3⟩ := ofOb_ h2
  obtain ⟨l, ws, rfl, c1, c2, c3⟩ := ty_cel r hx e1
  dsimp only at e3
  split at e3
  · rename_i hz
    refine ⟨Hf, l, ws, xs, ds, q.1, q.2, e3, r.ext, rfl, c2, c3, asD_dds e2 hv, hz, fun v us hd hu => ?_⟩
    have r2 : Rel B ca ρ (cs.set j (.lst q.2)) Hf σ (upd H l (.lst us)) := r.write c1 ⟨us, upd_same, hu⟩
    exact h3 ca Hf _ Nx.refl r2 v hd
  · cases e3
theorem eMt_run {to : TE} {t : TA} (ko : KE X W to fo) (kt : KA X W t fa) {B : Hp} {ca : List Addr} {ρ : List S} {cs : Store} {Hf : Hp} {σ : L2.St} {H : Hp} {Q : VK} (r : Rel B ca ρ cs Hf σ H)
    (h : Gs X W B ca Hf ρ σ (eMt g fo fa ρ cs) (fun ca' Hf' H' _ s => ∀ v, SvOk ca' Hf' s v → Q v H')) : tBM X.K "list" (rMt g) to t σ H Q := by
  refine ko B ca ρ cs Hf σ H _ r (h.bind.mono fun ca1 Hf1 H1 cs1 s n1 r1 h1 x hx => ?_)
  obtain ⟨j, xs, rfl, e1, h2⟩ := celM_ h1
  obtain ⟨l, ws, rfl, c1, c2, c3⟩ := ty_cel r1 hx e1
  refine ⟨.inl ⟨rfl, ws, .inl (.inl c2)⟩, ?_⟩
  exact kt B ca1 ρ cs1 Hf1 σ H1 _ r1 (h2.bind.mono fun ca2 Hf2 H2 cs2 ss n2 r2 h3 vs hvs => fin_run r2 (hx.nx n2) hvs h3)
theorem eMt0_run {to : TE} (ko : KE X W to fo) {B : Hp} {ca : List Addr} {ρ : List S} {cs : Store} {Hf : Hp} {σ : L2.St} {H : Hp} {Q : VK} (r : Rel B ca ρ cs Hf σ H)
    (h : Gs X W B ca Hf ρ σ (eMt0 g fo ρ cs) (fun ca' Hf' H' _ s => ∀ v, SvOk ca' Hf' s v → Q v H')) : tBM0 X.K "list" (rMt g) to σ H Q := by
  refine ko B ca ρ cs Hf σ H _ r (h.bind.mono fun ca1 Hf1 H1 cs1 s n1 r1 h1 x hx => ?_)
  have h1' := h1
  obtain ⟨j, xs, rfl, e1, h2⟩ := celM_ h1
  obtain ⟨l, ws, rfl, c1, c2, c3⟩ := ty_cel r1 hx e1
  exact ⟨.inl ⟨rfl, ws, .inl (.inl c2)⟩, fin_run r1 hx .nil h1'⟩
theorem de_mt (slot : Slot "list" name id) (hty : typeOf (.builtin id) = pure (.type "method_descriptor")) (hm : MtR X id (rMt g)) (ho : DE X W o fo) (ha : DA X W (e :: es) fa)
    (hbase : attributeBase o name X.env (eval o X.env) = eval o X.env := by rfl)
    (hfew : ((backTo cpos (starEach (e :: es) X.env)).all (fun x => !x.1) && (backToKw cpos (keywordEach [] X.env)).all (fun x => x.1.isSome)
      && decide ((e :: es).length + ([] : List Keyword).length + (if ([] : List Keyword).isEmpty then 0 else 1) < 30)) = true := by rfl)
    (hline : (apos.endLine == cpos.line) = true := by rfl) (hs : starEach (e :: es) X.env = (false, eval e X.env) :: starEach es X.env := by rfl) (hplain : (backTo cpos (starEach es X.env)).any (·.1) = false := by rfl) :
    DE X W (.Call (.Attribute o name apos) (e :: es) [] cpos) (eMt g fo fa) := by
  obtain ⟨to, po, ko⟩ := ho
  obtain ⟨t, p, k⟩ := ha
  exact ⟨_, pe_bm PySem.F.plainAttrs_list slot hty hm po p hbase hfew hline hs hplain, fun B ca ρ cs Hf σ H Q r h => eMt_run ko k r h⟩
theorem de_mt0 (slot : Slot "list" name id) (hty : typeOf (.builtin id) = pure (.type "method_descriptor")) (hm : MtR X id (rMt g)) (ho : DE X W o fo)
    (hbase : attributeBase o name X.env (eval o X.env) = eval o X.env := by rfl) (hline : (apos.endLine == cpos.line) = true := by rfl) :
    DE X W (.Call (.Attribute o name apos) [] [] cpos) (eMt0 g fo) := by
  obtain ⟨to, po, ko⟩ := ho
  exact ⟨_, pe_bm0 PySem.F.plainAttrs_list slot hty hm po hbase hline, fun B ca ρ cs Hf σ H Q r h => eMt0_run ko r h⟩
theorem dds_one {Hf : Hp} {vs : List V} {d : D} (h : Dds Hf vs [d]) : ∃ v, vs = [v] ∧ Dd Hf v d := by
  cases h with
  | cons h t => cases t; exact ⟨_, rfl, h⟩
theorem dds_two {Hf : Hp} {vs : List V} {d d' : D} (h : Dds Hf vs [d, d']) : ∃ v v', vs = [v, v'] ∧ Dd Hf v d ∧ Dd Hf v' d' := by
  cases h with
  | cons h t =>
    obtain ⟨v', rfl, h'⟩ := dds_one t
    exact ⟨_, _, rfl, h, h'⟩
theorem app_ok : MtR X "list.append" (rMt appG) := by
  intro pins s σ H x vs v us Q I rx rv h
  obtain ⟨Hf, l, ws, xs, ds, d, ys, e, ex, rfl, c2, c3, hl, hz, q⟩ := h
  unfold appG at e
  split at e
  · rename_i d0
    split at e
    · rename_i hlt
      cases e
      obtain ⟨y, rfl, hy⟩ := dds_one hl
      exact mt_append pins s σ H _ _ v us Q I rx rv ⟨l, ws, y, rfl, rfl, c2, by rw [dps_len c3]; exact hlt, q _ _ .non (dps_app c3 (.cons hy .nil))⟩
    · cases e
  · cases e
theorem ext_ok : MtR X "list.extend" (rMt extG) := by
  intro pins s σ H x vs v us Q I rx rv h
  obtain ⟨Hf, l, ws, xs, ds, d, ys, e, ex, rfl, c2, c3, hl, hz, q⟩ := h
  unfold extG at e
  split at e
  · rename_i zs
    split at e
    · rename_i hlt
      cases e
      obtain ⟨y, rfl, hy⟩ := dds_one hl
      cases hy with
      | lst g1 g2 =>
        rename_i b vs2
        cases rx
        obtain ⟨u, rfl, ru⟩ := rv.one
        cases ru
        have l1 := dps_len c3
        have l2 := dps_len g2
        obtain ⟨z, its, n, r, hl, e⟩ := I.lstM c2
        obtain ⟨z2, its2, n2, r2, hl2, e2⟩ := Inv.rdl I (rd_ex ex g1)
        have hsz : its.toArray.size + its2.toArray.size ≤ sizeLine := by rw [List.size_toArray, List.size_toArray]; omega
        have hlong : ¬ (!its.toArray.isEmpty && Builtin.List.listTooLong (its.toArray.size + its2.toArray.size)) = true := by
          rw [notLongL hsz, Bool.and_false]
          exact Bool.false_ne_true
        refine PySem.call_meets PySem.F.slot_list_extend ⟨_, e, rfl⟩ PySem.F.entry_list_extend (PySem.F.args_list_extend_2 _ _)
          (AutoSeq1.list_extend_list_list_0 l its.toArray n b its2.toArray n2 hlong (by rw [List.size_toArray]; omega) (by omega)) ⟨e, e2, ?_⟩
        refine ⟨.non, _, I.lset (its' := its ++ its2) c2 e (by simp) (r.append r2) ?_, rfl, q _ _ .non (dps_app c3 g2)⟩
        rw [List.length_append]
        omega
    · cases e
  · cases e
theorem pop_ok : MtR X "list.pop" (rMt popG) := by
  intro pins s σ H x vs v us Q I rx rv h
  obtain ⟨Hf, l, ws, xs, ds, d, ys, e, ex, rfl, c2, c3, hl, hz, q⟩ := h
  unfold popG at e
  split at e
  · cases z : xs[xs.length - 1]? with
    | none => rw [z] at e; cases e
    | some d0 =>
      rw [z] at e
      cases e
      cases hl
      obtain ⟨y, k1, k2⟩ := dps_get c3 z
      exact mt_pop pins s σ H _ _ v us Q I rx rv ⟨l, ws, y, rfl, rfl, c2, by rw [dps_len c3]; exact k1, q _ _ k2 (dps_dropLast c3)⟩
  · cases e
end
/-- xs[i] = e, xs a cell -/
def sSub (fo fi fe : List S → M S) : G := fun ρ => stp (bnd (fe ρ) fun e => bnd (fo ρ) fun o => bnd (fi ρ) fun i => bnd (celM o) fun p => match e, i with
  | .d x, .d (.int k) => bnd (ofO (ixN p.2.length k)) fun j => putM p.1 (.lst (p.2.set j x))
  | _, _ => stuck) (fun _ cs => .nx ρ cs) ρ
section
variable {X : Cx} {W : WX} {o i e : Expr} {fo fi fe : List S → M S} {pos pos' : Pos}
theorem dst_sub (he : DE X W e fe) (ho : DE X W o fo) (hi : DE X W i fi)
    (ha : ∀ v, assign (.Subscript o i pos') X.env v = (do
      let ov ← holding [v] (eval o X.env)
      let iv ← holding [v, ov] (eval i X.env)
      standAt pos'
      holding [v, ov, iv] (setItem ov iv v)
      release [v, ov, iv] []) := by intro _; rfl)
    (hs : swapsWithSole [.Subscript o i pos'] e pos.line X.env = pure false := by rfl) (hw : swappedStores [.Subscript o i pos'] e X.env = pure none := by rfl)
    (h1 : (assignEach [.Subscript o i pos'] X.env).map (·.2) = [assign (.Subscript o i pos') X.env] := by rfl) : DSt X W (.Assign [.Subscript o i pos'] e pos) (sSub fo fi fe) := by
  obtain ⟨te, pe, ke⟩ := he
  obtain ⟨to, po, ko⟩ := ho
  obtain ⟨ti, pi, ki⟩ := hi
  refine ⟨_, ps_asg pe (pg_sub po pi set_list ha) hs hw h1, fun B ca ρ cs Hf σ H En r hg => ?_⟩
  refine ke B ca ρ cs Hf σ H _ r (hg.stp_.bind.mono fun ca1 Hf1 H1 cs1 s1 n1 r1 h1 v hv => ?_)
  refine ko B ca1 ρ cs1 Hf1 σ H1 _ r1 (h1.bind.mono fun ca2 Hf2 H2 cs2 s2 n2 r2 h2 x hx => ?_)
  refine ki B ca2 ρ cs2 Hf2 σ H2 _ r2 (h2.bind.mono fun ca3 Hf3 H3 cs3 s3 n3 r3 h3 y hy => ?_)
  obtain ⟨j, xs, rfl, e1, h4⟩ := celM_ h3
  obtain ⟨l, ws, rfl, c1, c2, c3⟩ := ty_cel r3 (hx.nx n3) e1
  cases s1 with
  | d z =>
    cases s3 with
    | d w =>
      cases w with
      | int k =>
        have hy' : Dd Hf3 y (.int k) := hy
        cases hy'
        have h5 : Gs X W B ca3 Hf3 ρ σ (bnd (ofO (ixN xs.length k)) (fun m => putM j (.lst (xs.set m z))) cs3) _ := h4
        obtain ⟨m, e2, h6⟩ := ofOb_ h5
        have hz : Dd Hf3 v z := dp_ex n3.ex (dp_ex n2.ex hv)
        refine ⟨l, ws, k, m, rfl, rfl, c2, by rw [dps_len c3]; exact e2, ?_⟩
        have r4 : Rel B ca3 ρ (cs3.set j (.lst (xs.set m z))) Hf3 σ (upd H3 l (.lst (ws.set m v))) := r3.write c1 ⟨_, upd_same, dps_set m c3 hz⟩
        exact GO.nx_ (h6 ca3 Hf3 _ Nx.refl r4) r4
      | _ => exact h4.elim
    | _ => exact h4.elim
  | _ => exact h4.elim
end

/-! ### defs -/
def fin (n : Nat) : Out → Res Rv
  | .nx _ cs => .ok (.d .none) (cs.take n)
  | .rt (.cel j) cs => if j < n then .ok (.cel j) (cs.take n) else match cs[j]? with
    | some o => .ok (.own o) (cs.take n)
    | none => .no
  | .rt r cs => .ok r (cs.take n)
  | .er c _ cs => .er c (cs.take n)
  | _ => .no
/-- a def's mirror by its body's -/
def runG (m : Nat) (g : G) (ss : List S) : M Rv := fun cs => fin cs.length (g (ss ++ List.replicate m .no) cs)
/-- a def's promise: it does what F says -/
def spE (mg : Str → Option Value) (n : Nat) (F : List S → M Rv) : Sp := fun vs H Q E => vs.length = n ∧ ∃ B ca cs Hf ss, Rel B ca ss cs Hf (vs.map some) H ∧ match F ss cs with
  | .ok r cs' => ∀ Hf' H' v, Ex Hf Hf' → Rel B ca ss cs' Hf' (vs.map some) H' → RvOk B ca Hf' H' r v → Q v H'
  | .er c cs' => ∀ Hf' H' cls, Ex Hf Hf' → Rel B ca ss cs' Hf' (vs.map some) H' → mg c = some cls → E cls none H'
  | .no => False
theorem Rel.cut {B : Hp} {ca ca' : List Addr} {ρ ρ' : List S} {cs cs' : Store} {Hf Hf' : Hp} {σ σ' : L2.St} {H H' : Hp} (r0 : Rel B ca ρ cs Hf σ H) (n : Nx ca Hf ca' Hf') (r : Rel B ca' ρ' cs' Hf' σ' H') : Rel B ca ρ (cs'.take cs.length) Hf' σ H' := by
  obtain ⟨t, ht⟩ := n.pre
  have hlen : ca.length = cs.length := r0.lenc
  have hlen' : ca'.length = cs'.length := r.lenc
  have hle : ca.length ≤ ca'.length := by rw [← ht, List.length_append]; omega
  refine ⟨r.ext, r0.len, fun i s e => ?_, fun j o e => ?_, ?_, r0.nd, fun a m => r.off a (n.pre.subset m), r.exb, fun a m => ⟨(r.dis a m).1, fun z => (r.dis a m).2 (n.pre.subset z)⟩⟩
  · rcases r0.sl i s e with z | ⟨v, h1, h2⟩
    · exact .inl z
    · refine .inr ⟨v, h1, ?_⟩
      cases s with
      | no => exact h2
      | d x => exact dp_ex n.ex h2
      | fn a => exact h2
      | cel j => exact h2
  · have hj : j < cs.length := by
      have := (List.getElem?_eq_some_iff.mp e).1
      rw [List.length_take] at this
      omega
    rw [List.getElem?_take_of_lt hj] at e
    obtain ⟨a, g1, g2⟩ := r.cells j o e
    refine ⟨a, ?_, g2⟩
    rw [← ht, List.getElem?_append_left (by omega)] at g1
    exact g1
  · rw [List.length_take]
    omega
theorem RvOk.cut {B : Hp} {ca ca' : List Addr} {cs : Store} {Hf Hf' H' : Hp} {r : Rv} {v : V} (n : Nx ca Hf ca' Hf') (h : RvOk B ca' Hf' H' r v) (hr : ∀ j, r = .cel j → j < ca.length) : RvOk B ca Hf' H' r v := by
  cases r with
  | d x => exact h
  | own o =>
    obtain ⟨a, e, h1, h2, h3, h4⟩ := h
    exact ⟨a, e, h1, h2, fun z => h3 (n.pre.subset z), h4⟩
  | cel j =>
    obtain ⟨a, h1, e⟩ := h
    obtain ⟨t, ht⟩ := n.pre
    rw [← ht, List.getElem?_append_left (hr j rfl)] at h1
    exact ⟨a, h1, e⟩
section
variable {P : Program} {w : World} {K : PySem.W.Frag} {mg : Str → Option Value} {base : Heap} {x qual : Str} {params : Arguments} {body : List Stmt} {scope : Scope} {dvs : List V} {kws : List (Str × V)} {f : Addr} {fd : FuncData} {N ps : List Str} {k : Nat} {F : List S → M Rv}
/-- the body's context -/
abbrev BX (P : Program) (w : World) (K : PySem.W.Frag) (mg : Str → Option Value) (base : Heap) (N : List Str) (qual : Str) (scope : Scope) (f : Addr) (cd : Value) (A : Around) (outer : List Env) (s : Shared) (H : Hp) (E : XK) : Cx := cxOf (L2.CX P w) P w K mg base N qual scope f cd A outer s H E
abbrev BW (E : XK) : WX := fun cls d _ H => E cls d H
theorem takesB {cdv : Value} {A : Around} {outer : List Env} {s : Shared} {H : Hp} {E : XK} : Takes (BX P w K mg base N qual scope f cdv A outer s H E) (BW E) := takes_of rfl rfl rfl rfl
theorem passesB {cdv : Value} {A : Around} {outer : List Env} {s : Shared} {H : Hp} {E : XK} : PassesOwn (model P w) (BX P w K mg base N qual scope f cdv A outer s H E).A (BX P w K mg base N qual scope f cdv A outer s H E).env (BX P w K mg base N qual scope f cdv A outer s H E).xe := passes_of rfl
/-- THE RULE: a def by its body -/
theorem def_ok (Fd : FunD K x qual params body scope dvs kws f fd) (S : FnScope N ps scope) {g : G} (m : Nat) (hm : N.length = ps.length + m)
    (hbody : ∀ (cdv : Value) (A : Around) (outer : List Env) (s : Shared) (H : Hp) (E : XK), Room k (A.deeper (PyProof.Rows.envOfC qual scope s.heap.objs.size f cdv)) → Takes (BX P w K mg base N qual scope f cdv A outer s H E) (BW E) →
      PassesOwn (model P w) (BX P w K mg base N qual scope f cdv A outer s H E).A (BX P w K mg base N qual scope f cdv A outer s H E).env (BX P w K mg base N qual scope f cdv A outer s H E).xe → DSs (BX P w K mg base N qual scope f cdv A outer s H E) (BW E) body g) :
    FnOk P w K mg base (L2.CX P w) (k + 1) f fd ps (spE mg ps.length (runG m g)) := by
  refine Fd.ok S (fun vs H Q E h => h.1) (fun cdv A outer s H vs Q E hr h => ?_)
  obtain ⟨hl, B, ca, cs, Hf, ss, r, h⟩ := h
  obtain ⟨t, pt, kt⟩ := hbody cdv A outer s H E hr takesB passesB
  refine ⟨t, pt, ?_⟩
  have hss : ss.length = vs.length := by
    have := r.len
    rw [List.length_map] at this
    exact this.symm
  have hst : L2.start N vs = vs.map some ++ List.replicate m none := by
    unfold L2.start
    rw [hm, hl, Nat.add_sub_cancel_left]
  have r1 : Rel B ca (ss ++ List.replicate m .no) cs Hf (L2.start N vs) H := by
    rw [hst]
    refine r.slots (by simp [hss]) fun i sl e => ?_
    by_cases hi : i < ss.length
    · rw [List.getElem?_append_left hi] at e
      rcases r.sl i sl e with z | ⟨v, h1, h2⟩
      · exact .inl z
      · exact .inr ⟨v, by rw [List.getElem?_append_left (by simp; omega)]; exact h1, h2⟩
    · rw [List.getElem?_append_right (by omega), List.getElem?_replicate] at e
      split at e
      · cases e; exact .inl rfl
      · cases e
  refine kt B ca _ cs Hf _ H _ r1 ?_
  have hlc := r.lenc
  unfold runG at h
  cases e : g (ss ++ List.replicate m .no) cs with
  | nx ρ' cs' =>
    rw [e] at h
    exact fun ca' Hf' σ' H' n r' => h Hf' H' .non n.ex (r.cut n r') .non
  | rt rv cs' =>
    rw [e] at h
    intro ca' Hf' ρ' σ' H' v n r' hv
    have rc := r.cut n r'
    cases rv with
    | d x => exact h Hf' H' v n.ex rc (hv.cut (cs := cs) n fun j z => nomatch z)
    | own o => exact h Hf' H' v n.ex rc (hv.cut (cs := cs) n fun j z => nomatch z)
    | cel j =>
      by_cases hj : j < cs.length
      · have h' : match (Res.ok (Rv.cel j) (cs'.take cs.length) : Res Rv) with
          | .ok r cs' => ∀ Hf' H' v, Ex Hf Hf' → Rel B ca ss cs' Hf' (vs.map some) H' → RvOk B ca Hf' H' r v → Q v H'
          | .er c cs' => ∀ Hf' H' cls, Ex Hf Hf' → Rel B ca ss cs' Hf' (vs.map some) H' → mg c = some cls → E cls none H'
          | .no => False := by
          have e2 : fin cs.length (.rt (.cel j) cs') = .ok (.cel j) (cs'.take cs.length) := if_pos hj
          rw [← e2]; exact h
        exact h' Hf' H' v n.ex rc (hv.cut (cs := cs) n fun j' z => by cases z; omega)
      · obtain ⟨a, h1, rfl⟩ := hv
        have hj' : j < cs'.length := by rw [← r'.lenc]; exact (List.getElem?_eq_some_iff.mp h1).1
        obtain ⟨b, g1, g2⟩ := r'.cells j cs'[j] (by simp [hj'])
        rw [h1] at g1; cases g1
        have ma : a ∈ ca' := List.mem_of_getElem? h1
        have h' : match (Res.ok (Rv.own cs'[j]) (cs'.take cs.length) : Res Rv) with
          | .ok r cs' => ∀ Hf' H' v, Ex Hf Hf' → Rel B ca ss cs' Hf' (vs.map some) H' → RvOk B ca Hf' H' r v → Q v H'
          | .er c cs' => ∀ Hf' H' cls, Ex Hf Hf' → Rel B ca ss cs' Hf' (vs.map some) H' → mg c = some cls → E cls none H'
          | .no => False := by
          have e2 : fin cs.length (.rt (.cel j) cs') = .ok (.own cs'[j]) (cs'.take cs.length) := by
            refine Eq.trans (show fin cs.length (.rt (.cel j) cs') = (if j < cs.length then .ok (.cel j) (cs'.take cs.length) else match cs'[j]? with
              | some o => .ok (.own o) (cs'.take cs.length)
              | none => .no) from rfl) ?_
            rw [if_neg hj, List.getElem?_eq_getElem hj']
          rw [← e2]; exact h
        refine h' Hf' H' _ n.ex rc ⟨a, rfl, g2, r'.off a ma, fun z => ?_, ?_⟩
        · obtain ⟨t, ht⟩ := n.pre
          obtain ⟨i, hi, ei⟩ := List.mem_iff_getElem.mp z
          have e3 : ca'[i]? = some a := by rw [← ht, List.getElem?_append_left hi]; simp [hi, ei]
          have := nd_ix r'.nd h1 e3
          omega
        · cases q : B a with
          | none => rfl
          | some u => exact absurd ma (r'.dis a (by rw [q]; simp)).2
  | er c ρ' cs' =>
    rw [e] at h
    exact fun ca' Hf' σ' H' cls n r' hc => h Hf' H' cls n.ex (r.cut n r') hc
  | bk ρ' cs' => rw [e] at h; exact h.elim
  | ct ρ' cs' => rw [e] at h; exact h.elim
  | no => rw [e] at h; exact h.elim
end
end Dn

set_option Elab.async false
set_option linter.all false
set_option maxRecDepth 100000
set_option maxHeartbeats 1000000
/-! Dn7: calls of defs. -/
namespace Dn
open PySem L2
/-- no cell among them -/
def noCel : List S → Bool
  | [] => true
  | .cel _ :: _ => false
  | _ :: r => noCel r
/-- a call that is handed no cell -/
def callP (F : List S → M Rv) (ss : List S) : M Rv := fun cs => if noCel ss = true then (match F ss [] with
  | .ok (.d x) _ => .ok (.d x) cs
  | .ok (.own o) _ => .ok (.own o) cs
  | .ok (.cel _) _ => .no
  | .er c _ => .er c cs
  | .no => .no) else .no
/-- a call that is handed one cell, ahead -/
def callC (F : List S → M Rv) (ss : List S) : M Rv := fun cs => match ss with
  | .cel j :: r => if noCel r = true then (match cs[j]? with
    | some o => match F (.cel 0 :: r) [o] with
      | .ok (.d x) [o'] => .ok (.d x) (cs.set j o')
      | .ok (.own u) [o'] => .ok (.own u) (cs.set j o')
      | .ok (.cel 0) [o'] => .ok (.cel j) (cs.set j o')
      | .er c [o'] => .er c (cs.set j o')
      | _ => .no
    | none => .no) else .no
  | _ => .no
def eCall (F : List S → M Rv) (g : List S → M (List S)) (ρ : List S) : M Rv := bnd (g ρ) (callP F)
def eCallC (F : List S → M Rv) (g : List S → M (List S)) (ρ : List S) : M Rv := bnd (g ρ) (callC F)
/-- the i-th slot holds the def at a; it lets nothing out -/
def eCallL (i : Nat) (a : Addr) (F : List S → M Rv) (g : List S → M (List S)) (ρ : List S) : M Rv := fun cs => match ρ[i]? with
  | some (.fn b) => if b = a then bnd (g ρ) (fun ss cs => match callP F ss cs with
    | .er _ _ => .no
    | o => o) cs else .no
  | _ => .no
section
variable {B : Hp} {ca : List Addr} {ρ : List S} {cs : Store} {Hf Hf' : Hp} {σ : L2.St} {H H' : Hp} {ss : List S} {vs : List V}
theorem nocel_sv : ∀ {ss : List S} {vs : List V} {ca' : List Addr}, noCel ss = true → SvsOk ca Hf ss vs → SvsOk ca' Hf ss vs
  | [], _, _, _, h => by cases h; exact .nil
  | .no :: r, _, _, e, h => by cases h with | cons h t => exact h.elim
  | .d x :: r, _, _, e, h => by cases h with | cons h t => exact .cons h (nocel_sv (show noCel r = true from e) t)
  | .fn a :: r, _, _, e, h => by cases h with | cons h t => exact .cons h (nocel_sv (show noCel r = true from e) t)
  | .cel j :: r, _, _, e, h => by cases e
theorem slots_of {ca' : List Addr} (h : SvsOk ca' Hf ss vs) (i : Nat) (s : S) (e : ss[i]? = some s) : s = .no ∨ ∃ v, (vs.map some)[i]? = some (some v) ∧ SvOk ca' Hf s v := by
  obtain ⟨v, h1, h2⟩ := h.get e
  exact .inr ⟨v, by rw [List.getElem?_map, h1] <;> rfl, h2⟩
/-- what a callee may not touch: all but what is frozen and what it is handed -/
def ban (Hf H : Hp) (ca' : List Addr) : Hp := fun a => if Hf a = none ∧ a ∉ ca' then H a else none
theorem ban_some {ca' : List Addr} {a : Addr} {o : HO} (h1 : Hf a = none) (h2 : a ∉ ca') (h3 : H a = some o) : ban Hf H ca' a = some o := by
  unfold ban; rw [if_pos ⟨h1, h2⟩]; exact h3
theorem ban_of {ca' : List Addr} {a : Addr} (h : ban Hf H ca' a ≠ none) : Hf a = none ∧ a ∉ ca' := by
  unfold ban at h
  by_cases q : Hf a = none ∧ a ∉ ca'
  · exact q
  · rw [if_neg q] at h; exact absurd rfl h
theorem ban_ex {ca' : List Addr} : Ex (ban Hf H ca') H := fun a o h => by
  unfold ban at h
  by_cases q : Hf a = none ∧ a ∉ ca'
  · rw [if_pos q] at h; exact h
  · rw [if_neg q] at h; cases h
theorem Rel.enter (r : Rel B ca ρ cs Hf σ H) (h : noCel ss = true) (hv : SvsOk ca Hf ss vs) : Rel (ban Hf H []) [] ss [] Hf (vs.map some) H :=
  ⟨r.ext, by simp [hv.len], slots_of (nocel_sv h hv), fun j o e => by simp at e, rfl, List.nodup_nil, fun a m => by simp at m, ban_ex, fun a m => ban_of m⟩
theorem Rel.leave {ss' : List S} {σ' : L2.St} (r : Rel B ca ρ cs Hf σ H) (e : Ex Hf Hf') (r' : Rel (ban Hf H []) [] ss' [] Hf' σ' H') : Rel B ca ρ cs Hf' σ H' ∧ Nx ca Hf ca Hf' := by
  have kp : ∀ a, Hf a = none → ∀ o, H a = some o → H' a = some o := fun a h o q => r'.exb a o (ban_some h (by simp) q)
  have nf : ∀ a, Hf a = none → H a ≠ none → Hf' a = none := fun a h q => by
    cases z : H a with
    | none => exact absurd z q
    | some o => exact (r'.dis a (by rw [ban_some h (by simp) z]; simp)).1
  have n : Nx ca Hf ca Hf' := ⟨List.prefix_refl _, e⟩
  refine ⟨⟨r'.ext, r.len, fun i s q => ?_, fun j o q => ?_, r.lenc, r.nd, fun a m => nf a (r.off a m) (r.there m), fun a o q => kp a (r.dis a (by rw [q]; simp)).1 o (r.exb a o q), fun a m => ?_⟩, n⟩
  · rcases r.sl i s q with z | ⟨v, h1, h2⟩
    · exact .inl z
    · exact .inr ⟨v, h1, h2.nx n⟩
  · obtain ⟨a, h1, h2⟩ := r.cells j o q
    refine ⟨a, h1, h2.at ?_ e⟩
    have ma := List.mem_of_getElem? h1
    cases z : H a with
    | none => exact absurd z (r.there ma)
    | some u => exact kp a (r.off a ma) u z
  · obtain ⟨h1, h2⟩ := r.dis a m
    refine ⟨nf a h1 ?_, h2⟩
    cases q : B a with
    | none => exact absurd q m
    | some u => rw [r.exb a u q]; simp
theorem RvOk.leave {rv : Rv} {v : V} (r : Rel B ca ρ cs Hf σ H) (h : RvOk (ban Hf H []) [] Hf' H' rv v) (n : ∀ j, rv ≠ .cel j) : RvOk B ca Hf' H' rv v := by
  cases rv with
  | d x => exact h
  | cel j => exact absurd rfl (n j)
  | own o =>
    obtain ⟨a, e, h1, h2, _, h4⟩ := h
    have hb : ∀ o, H a = some o → Hf a = none → False := fun o q z => by rw [ban_some z (by simp) q] at h4; cases h4
    refine ⟨a, e, h1, h2, fun m => ?_, ?_⟩
    · cases z : H a with
      | none => exact r.there m z
      | some u => exact hb u z (r.off a m)
    · cases z : B a with
      | none => rfl
      | some u => exact (hb u (r.exb a u z) (r.dis a (by rw [z]; simp)).1).elim
theorem Rel.enterC {j : Nat} {o : OC} {a : Addr} {v : V} (r : Rel B ca ρ cs Hf σ H) (h : noCel ss = true) (hv : SvsOk ca Hf ss vs) (hj : cs[j]? = some o) (ha : ca[j]? = some a) : Rel (ban Hf H [a]) [a] (.cel 0 :: ss) [o] Hf ((V.ref a :: vs).map some) H := by
  have ma := List.mem_of_getElem? ha
  refine ⟨r.ext, by simp [hv.len], slots_of (.cons ⟨a, rfl, rfl⟩ (nocel_sv h hv)), fun i u e => ?_, rfl, by simp, fun b m => ?_, ban_ex, fun b m => ban_of m⟩
  · cases i with
    | zero => simp at e; subst e; exact ⟨a, rfl, r.cell hj ha⟩
    | succ i => simp at e
  · simp at m; subst m; exact r.off b ma
theorem Rel.leaveC {ss' : List S} {σ' : L2.St} {j : Nat} {o' : OC} {a : Addr} (r : Rel B ca ρ cs Hf σ H) (ha : ca[j]? = some a) (e : Ex Hf Hf') (r' : Rel (ban Hf H [a]) [a] ss' [o'] Hf' σ' H') : Rel B ca ρ (cs.set j o') Hf' σ H' ∧ Nx ca Hf ca Hf' := by
  have kp : ∀ b, Hf b = none → b ≠ a → ∀ o, H b = some o → H' b = some o := fun b h hn o q => r'.exb b o (ban_some h (by simp [hn]) q)
  have nf : ∀ b, Hf b = none → b ≠ a → H b ≠ none → Hf' b = none := fun b h hn q => by
    cases z : H b with
    | none => exact absurd z q
    | some o => exact (r'.dis b (by rw [ban_some h (by simp [hn]) z]; simp)).1
  have ma := List.mem_of_getElem? ha
  have n : Nx ca Hf ca Hf' := ⟨List.prefix_refl _, e⟩
  refine ⟨⟨r'.ext, r.len, fun i s q => ?_, fun i o q => ?_, by simp [r.lenc], r.nd, fun b m => ?_, fun b o q => ?_, fun b m => ?_⟩, n⟩
  · rcases r.sl i s q with z | ⟨v, h1, h2⟩
    · exact .inl z
    · exact .inr ⟨v, h1, h2.nx n⟩
  · by_cases hi : j = i
    · subst hi
      have hjl : j < cs.length := by rw [← r.lenc]; exact (List.getElem?_eq_some_iff.mp ha).1
      rw [List.getElem?_set_self hjl] at q
      cases q
      obtain ⟨b, g1, g2⟩ := r'.cells 0 o' rfl
      have : a = b := by simpa using g1
      subst this
      exact ⟨a, ha, g2⟩
    · rw [List.getElem?_set_ne hi] at q
      obtain ⟨b, h1, h2⟩ := r.cells i o q
      have hne : b ≠ a := fun z => by subst z; exact hi (nd_ix r.nd ha h1)
      have mb := List.mem_of_getElem? h1
      refine ⟨b, h1, h2.at ?_ e⟩
      cases z : H b with
      | none => exact absurd z (r.there mb)
      | some u => exact kp b (r.off b mb) hne u z
  · by_cases hb : b = a
    · subst hb; exact r'.off b (by simp)
    · exact nf b (r.off b m) hb (r.there m)
  · have hd := r.dis b (by rw [q]; simp)
    exact kp b hd.1 (fun z => hd.2 (z ▸ ma)) o (r.exb b o q)
  · obtain ⟨h1, h2⟩ := r.dis b m
    refine ⟨nf b h1 (fun z => h2 (z ▸ ma)) ?_, h2⟩
    cases q : B b with
    | none => exact absurd q m
    | some u => rw [r.exb b u q]; simp
theorem RvOk.leaveC {rv : Rv} {v : V} {a : Addr} {j : Nat} (r : Rel B ca ρ cs Hf σ H) (ha : ca[j]? = some a) (h : RvOk (ban Hf H [a]) [a] Hf' H' rv v) (n : ∀ i, rv ≠ .cel i) : RvOk B ca Hf' H' rv v := by
  cases rv with
  | d x => exact h
  | cel i => exact absurd rfl (n i)
  | own o =>
    obtain ⟨b, e, h1, h2, h3, h4⟩ := h
    have hne : b ≠ a := fun z => h3 (by simp [z])
    have hb : ∀ o, H b = some o → Hf b = none → False := fun o q z => by rw [ban_some z (by simp [hne]) q] at h4; cases h4
    refine ⟨b, e, h1, h2, fun m => ?_, ?_⟩
    · cases z : H b with
      | none => exact r.there m z
      | some u => exact hb u z (r.off b m)
    · cases z : B b with
      | none => rfl
      | some u => exact (hb u (r.exb b u z) (r.dis b (by rw [z]; simp)).1).elim
end
section
variable {X : Cx} {W : WX} {k : Nat} {f : Addr} {fd : FuncData} {ps : List Str} {F : List S → M Rv} {x : Str} {p pos : Pos} {e : Expr} {es : List Expr} {g : List S → M (List S)}
theorem callP_run {n : Nat} {B : Hp} {ca : List Addr} {ρ : List S} {cs : Store} {Hf : Hp} {σ : L2.St} {H : Hp} {Q : VK} {ss : List S} {vs : List V} (r : Rel B ca ρ cs Hf σ H) (hn : vs.length = n) (hv : SvsOk ca Hf ss vs)
    (h : Gs X W B ca Hf ρ σ (callP F ss cs) (fun ca' Hf' H' _ rv => ∀ v, RvOk B ca' Hf' H' rv v → Q v H')) : spE X.mg n F vs H Q (WE W σ) := by
  unfold callP at h
  by_cases hc : noCel ss = true
  · rw [if_pos hc] at h
    refine ⟨hn, _, [], [], Hf, ss, r.enter hc hv, ?_⟩
    cases q : F ss [] with
    | no => rw [q] at h; exact h.elim
    | er c cs1 =>
      rw [q] at h
      intro Hf' H' cls ex r' hm
      cases cs1 with
      | nil =>
        obtain ⟨r2, n2⟩ := r.leave ex r'
        exact h ca Hf' H' cls n2 r2 hm
      | cons _ _ => exact absurd r'.lenc (by simp)
    | ok rv cs1 =>
      rw [q] at h
      intro Hf' H' v ex r' hr
      have e1 : cs1 = [] := by
        have := r'.lenc
        exact List.length_eq_zero_iff.mp (by simpa using this.symm)
      subst e1
      obtain ⟨r2, n2⟩ := r.leave ex r'
      cases rv with
      | d y => exact h ca Hf' H' n2 r2 v (RvOk.leave r hr fun j z => nomatch z)
      | own o => exact h ca Hf' H' n2 r2 v (RvOk.leave r hr fun j z => nomatch z)
      | cel j => exact h.elim
  · rw [if_neg hc] at h; exact h.elim
theorem do_call (Fk : FnOk X.prog X.w X.K X.mg X.base (L2.CX X.prog X.w) k f fd ps (spE X.mg ps.length F)) (hr : Room k X.A) (tk : Takes X W) (hm : X.mg x = some (.ref f)) (hk : PySem.W.keepIn X.K (.ref f) = true) (hb : Binds X.K fd ps [])
    (ha : DA X W (e :: es) g) (hl : (e :: es).length = ps.length := by rfl) (hg : Gl X x := by rfl) (hdb : (x == ("__debug__" : Str)) = false := by decide) (he : starEach (e :: es) X.env = (false, eval e X.env) :: starEach es X.env := by rfl) (hpl : (backTo pos (starEach es X.env)).any (·.1) = false := by rfl)
    (hlen : ∀ ρ cs ss cs', g ρ cs = .ok ss cs' → ss.length = ps.length) : DO X W (.Call (.Name x p) (e :: es) [] pos) (eCall F g) := by
  obtain ⟨t, pt, kt⟩ := ha
  refine ⟨_, pe_callS (E := WE W) Fk hr hg hm hk hb (passAt tk) pt hdb he hpl, fun B ca ρ cs Hf σ H Q r h => ?_⟩
  have h' := h
  cases q : g ρ cs with
  | ok ss cs1 =>
    refine kt B ca ρ cs Hf σ H _ r ?_
    have hss := hlen ρ cs ss cs1 q
    rw [q]
    intro ca1 Hf1 H1 n1 r1 vs hvs
    have h1 : Gs X W B ca1 Hf1 ρ σ (callP F ss cs1) (fun ca' Hf' H' _ rv => ∀ v, RvOk B ca' Hf' H' rv v → Q v H') := by
      have e1 : eCall F g ρ cs = callP F ss cs1 := bnd_ok q
      rw [← e1]; exact h.fwd n1
    exact callP_run r1 (by rw [← hvs.len]; exact hss) hvs h1
  | er c cs1 =>
    refine kt B ca ρ cs Hf σ H _ r ?_
    rw [q]
    have e1 : eCall F g ρ cs = .er c cs1 := by unfold eCall bnd; rw [q]
    rw [e1] at h
    exact h
  | no =>
    have e1 : eCall F g ρ cs = .no := by unfold eCall bnd; rw [q]
    rw [e1] at h
    exact h.elim
theorem callC_run {n : Nat} {B : Hp} {ca : List Addr} {ρ : List S} {cs : Store} {Hf : Hp} {σ : L2.St} {H : Hp} {Q : VK} {ss : List S} {vs : List V} (r : Rel B ca ρ cs Hf σ H) (hn : vs.length = n) (hv : SvsOk ca Hf ss vs)
    (h : Gs X W B ca Hf ρ σ (callC F ss cs) (fun ca' Hf' H' _ rv => ∀ v, RvOk B ca' Hf' H' rv v → Q v H')) : spE X.mg n F vs H Q (WE W σ) := by
  cases hv with
  | nil => exact h.elim
  | cons hs ht =>
    rename_i s ss v vs
    cases s with
    | cel j =>
      obtain ⟨a, ha, rfl⟩ := hs
      have h0 : Gs X W B ca Hf ρ σ (if noCel ss = true then (match cs[j]? with
        | some o => match F (.cel 0 :: ss) [o] with
          | .ok (.d x) [o'] => .ok (.d x) (cs.set j o')
          | .ok (.own u) [o'] => .ok (.own u) (cs.set j o')
          | .ok (.cel 0) [o'] => .ok (.cel j) (cs.set j o')
          | .er c [o'] => .er c (cs.set j o')
          | _ => .no
        | none => .no) else .no) (fun ca' Hf' H' _ rv => ∀ v, RvOk B ca' Hf' H' rv v → Q v H') := h
      by_cases hc : noCel ss = true
      · rw [if_pos hc] at h0
        cases qj : cs[j]? with
        | none => rw [qj] at h0; exact h0.elim
        | some o =>
          rw [qj] at h0
          refine ⟨hn, _, [a], [o], Hf, _, r.enterC (v := .ref a) hc ht qj ha, ?_⟩
          have h1 : Gs X W B ca Hf ρ σ (match F (.cel 0 :: ss) [o] with
            | .ok (.d x) [o'] => .ok (.d x) (cs.set j o')
            | .ok (.own u) [o'] => .ok (.own u) (cs.set j o')
            | .ok (.cel 0) [o'] => .ok (.cel j) (cs.set j o')
            | .er c [o'] => .er c (cs.set j o')
            | _ => .no) (fun ca' Hf' H' _ rv => ∀ v, RvOk B ca' Hf' H' rv v → Q v H') := h0
          cases q : F (.cel 0 :: ss) [o] with
          | no => rw [q] at h1; exact h1.elim
          | er c cs1 =>
            rw [q] at h1
            intro Hf' H' cls ex r' hm
            have hl := r'.lenc
            match cs1, hl with
            | [o'], _ =>
              obtain ⟨r2, n2⟩ := r.leaveC ha ex r'
              exact h1 ca Hf' H' cls n2 r2 hm
          | ok rv cs1 =>
            rw [q] at h1
            intro Hf' H' v ex r' hr
            have hl := r'.lenc
            match cs1, hl with
            | [o'], _ =>
              obtain ⟨r2, n2⟩ := r.leaveC ha ex r'
              cases rv with
              | d y => exact h1 ca Hf' H' n2 r2 v (RvOk.leaveC r ha hr fun j z => nomatch z)
              | own u => exact h1 ca Hf' H' n2 r2 v (RvOk.leaveC r ha hr fun j z => nomatch z)
              | cel i =>
                cases i with
                | zero =>
                  obtain ⟨b, g1, rfl⟩ := hr
                  have : a = b := by simpa using g1
                  subst this
                  exact h1 ca Hf' H' n2 r2 _ ⟨a, ha, rfl⟩
                | succ i => exact h1.elim
      · rw [if_neg hc] at h0; exact h0.elim
    | _ => exact h.elim
theorem do_callC (Fk : FnOk X.prog X.w X.K X.mg X.base (L2.CX X.prog X.w) k f fd ps (spE X.mg ps.length F)) (hr : Room k X.A) (tk : Takes X W) (hm : X.mg x = some (.ref f)) (hk : PySem.W.keepIn X.K (.ref f) = true) (hb : Binds X.K fd ps [])
    (ha : DA X W (e :: es) g) (hl : (e :: es).length = ps.length := by rfl) (hg : Gl X x := by rfl) (hdb : (x == ("__debug__" : Str)) = false := by decide) (he : starEach (e :: es) X.env = (false, eval e X.env) :: starEach es X.env := by rfl) (hpl : (backTo pos (starEach es X.env)).any (·.1) = false := by rfl)
    (hlen : ∀ ρ cs ss cs', g ρ cs = .ok ss cs' → ss.length = ps.length) : DO X W (.Call (.Name x p) (e :: es) [] pos) (eCallC F g) := by
  obtain ⟨t, pt, kt⟩ := ha
  refine ⟨_, pe_callS (E := WE W) Fk hr hg hm hk hb (passAt tk) pt hdb he hpl, fun B ca ρ cs Hf σ H Q r h => ?_⟩
  cases q : g ρ cs with
  | ok ss cs1 =>
    refine kt B ca ρ cs Hf σ H _ r ?_
    have hss := hlen ρ cs ss cs1 q
    rw [q]
    intro ca1 Hf1 H1 n1 r1 vs hvs
    have h1 : Gs X W B ca1 Hf1 ρ σ (callC F ss cs1) (fun ca' Hf' H' _ rv => ∀ v, RvOk B ca' Hf' H' rv v → Q v H') := by
      have e1 : eCallC F g ρ cs = callC F ss cs1 := bnd_ok q
      rw [← e1]; exact h.fwd n1
    exact callC_run r1 (by rw [← hvs.len]; exact hss) hvs h1
  | er c cs1 =>
    refine kt B ca ρ cs Hf σ H _ r ?_
    rw [q]
    have e1 : eCallC F g ρ cs = .er c cs1 := by unfold eCallC bnd; rw [q]
    rw [e1] at h
    exact h
  | no =>
    have e1 : eCallC F g ρ cs = .no := by unfold eCallC bnd; rw [q]
    rw [e1] at h
    exact h.elim
/-- a call of a local name that holds a def -/
theorem do_callL (i : Nat) (Fk : FnOk X.prog X.w X.K X.mg X.base (L2.CX X.prog X.w) k f fd ps (spE X.mg ps.length F)) (hr : Room k X.A) (hk : PySem.W.keepIn X.K (.ref f) = true) (hb : Binds X.K fd ps [])
    (ha : DA X W (e :: es) g) (hlen : ∀ ρ cs ss cs', g ρ cs = .ok ss cs' → ss.length = ps.length) (hN : X.N[i]? = some x := by rfl) (hv : Vis X.env.scope x := by first | exact Or.inl rfl | exact Or.inr (Or.inl rfl) | exact Or.inr (Or.inr rfl))
    (hdb : (x == ("__debug__" : Str)) = false := by decide) (hcd : (x == ("__classdict__" : Str)) = false := by decide) (he : starEach (e :: es) X.env = (false, eval e X.env) :: starEach es X.env := by rfl) (hpl : (backTo pos (starEach es X.env)).any (·.1) = false := by rfl) : DO X W (.Call (.Name x p) (e :: es) [] pos) (eCallL i f F g) := by
  obtain ⟨t, pt, kt⟩ := ha
  refine ⟨_, pe_callL (dvs := []) (E := E0) Fk hr hN hv hk hb .nil passL pt hdb hcd he hpl, fun B ca ρ cs Hf σ H Q r h => ?_⟩
  cases es : ρ[i]? with
  | none =>
    have e1 : eCallL i f F g ρ cs = .no := by unfold eCallL; rw [es]
    rw [e1] at h; exact h.elim
  | some s =>
    cases s with
    | fn b =>
      by_cases hb : b = f
      · subst hb
        have e1 : eCallL i b F g ρ cs = bnd (g ρ) (fun ss cs => match callP F ss cs with
          | .er _ _ => .no
          | o => o) cs := by unfold eCallL; rw [es]; exact if_pos rfl
        rw [e1] at h
        obtain ⟨v0, s1, s2⟩ := r.get es (fun z => nomatch z)
        have s2' : v0 = .ref b := s2
        subst s2'
        refine ⟨s1, ?_⟩
        cases q : g ρ cs with
        | ok ss cs1 =>
          refine kt B ca ρ cs Hf σ H _ r ?_
          have hss := hlen ρ cs ss cs1 q
          rw [q]
          intro ca1 Hf1 H1 n1 r1 vs hvs
          rw [bnd_ok q] at h
          rw [List.append_nil]
          have h1 := h.fwd n1
          cases qc : callP F ss cs1 with
          | er c c' => rw [qc] at h1; exact h1.elim
          | no => rw [qc] at h1; exact h1.elim
          | ok rv cs2 =>
            rw [qc] at h1
            have h2 : Gs X (fun _ _ _ _ => False) B ca1 Hf1 ρ σ (callP F ss cs1) (fun ca' Hf' H' _ rv => ∀ v, RvOk B ca' Hf' H' rv v → Q v H') := by rw [qc]; exact h1
            exact callP_run (W := fun _ _ _ _ => False) r1 (by rw [← hvs.len]; exact hss) hvs h2
        | er c cs1 =>
          refine kt B ca ρ cs Hf σ H _ r ?_
          rw [q]
          unfold bnd at h
          rw [q] at h
          exact h
        | no =>
          unfold bnd at h
          rw [q] at h
          exact h.elim
      · have e1 : eCallL i f F g ρ cs = .no := by unfold eCallL; rw [es]; exact if_neg hb
        rw [e1] at h; exact h.elim
    | _ =>
      have e1 : eCallL i f F g ρ cs = .no := by unfold eCallL; rw [es]
      rw [e1] at h; exact h.elim
theorem alen0 : ∀ ρ cs ss cs', aNil ρ cs = .ok ss cs' → ss.length = 0 := fun ρ cs ss cs' h => by
  have h' : (Res.ok [] cs : Res (List S)) = .ok ss cs' := h
  cases h'; rfl
theorem alenS {fa : List S → M S} {n : Nat} (hl : ∀ ρ cs ss cs', g ρ cs = .ok ss cs' → ss.length = n) : ∀ ρ cs ss cs', aCons fa g ρ cs = .ok ss cs' → ss.length = n + 1 := fun ρ cs ss cs' h => by
  unfold aCons bnd at h
  cases q : fa ρ cs with
  | ok a c1 =>
    rw [q] at h
    dsimp only at h
    cases q2 : g ρ c1 with
    | ok as c2 =>
      rw [q2] at h
      have h' : (Res.ok (a :: as) c2 : Res (List S)) = .ok ss cs' := h
      cases h'
      exact congrArg Nat.succ (hl ρ c1 as _ q2)
    | er c c2 => rw [q2] at h; cases h
    | no => rw [q2] at h; cases h
  | er c c2 => rw [q] at h; cases h
  | no => rw [q] at h; cases h
end
end Dn

set_option Elab.async false
set_option linter.all false
set_option maxRecDepth 100000
set_option maxHeartbeats 1000000
/-! Dn8: defs by name, the head by facts, the law's end. -/
namespace Dn
open PySem L2
/-- the def named x does what F says, by at most k levels -/
def Okf (P : Program) (w : World) (K : PySem.W.Frag) (mg : Str → Option Value) (base : Heap) (k : Nat) (x : Str) (ps : List Str) (F : List S → M Rv) : Prop :=
  ∃ f fd, mg x = some (.ref f) ∧ f = He.ga K x ∧ FnOk P w K mg base (L2.CX P w) k f fd ps (spE mg ps.length F) ∧ Binds K fd ps [] ∧ PySem.W.keepIn K (.ref f) = true
section
variable {P : Program} {w : World} {K : PySem.W.Frag} {mg : Str → Option Value} {base : Heap} {j k : Nat} {x : Str} {ps N : List Str} {F : List S → M Rv} {st : Stmt}
theorem Okf.mono (h : Okf P w K mg base j x ps F) (hk : j ≤ k) : Okf P w K mg base k x ps F := by
  obtain ⟨f, fd, h1, h0, h2, h3, h4⟩ := h
  exact ⟨f, fd, h1, h0, h2.mono hk, h3, h4⟩
/-- how a def of the text stands -/
structure Dfn (K : PySem.W.Frag) (mg : Str → Option Value) (x : Str) (st : Stmt) (ps : List Str) : Prop where
  g : mg x = some (.ref (He.ga K x))
  d : ∃ fd, FunD K x x (defArgs st) (defBody st) (defScope st) [] [] (He.ga K x) fd ∧ Binds K fd ps []
theorem Dfn.ok (T : Dfn K mg x st ps) (sc : FnScope N ps (defScope st)) (m : Nat) (hm : N.length = ps.length + m) {g : G}
    (hbody : ∀ (cdv : Value) (A : Around) (outer : List Env) (s : Shared) (H : Hp) (E : XK), Room k (A.deeper (PyProof.Rows.envOfC x (defScope st) s.heap.objs.size (He.ga K x) cdv)) → Takes (BX P w K mg base N x (defScope st) (He.ga K x) cdv A outer s H E) (BW E) →
      PassesOwn (model P w) (BX P w K mg base N x (defScope st) (He.ga K x) cdv A outer s H E).A (BX P w K mg base N x (defScope st) (He.ga K x) cdv A outer s H E).env (BX P w K mg base N x (defScope st) (He.ga K x) cdv A outer s H E).xe → DSs (BX P w K mg base N x (defScope st) (He.ga K x) cdv A outer s H E) (BW E) (defBody st) g) :
    Okf P w K mg base (k + 1) x ps (runG m g) := by
  obtain ⟨h1, fd, h2, h3⟩ := T
  exact ⟨He.ga K x, fd, h1, rfl, def_ok h2 sc m hm hbody, h3, h2.kp⟩
def F0 : List S → M Rv := fun _ _ => .no
theorem Dfn.ok0 (T : Dfn K mg x st ps) : Okf P w K mg base k x ps F0 := by
  obtain ⟨h1, fd, h2, h3⟩ := T
  refine ⟨He.ga K x, fd, h1, rfl, ⟨fun vs H Q E h => h.1, fun A outer s H args us vs Q E hr e0 hb hv hs => ?_⟩, h3, h2.kp⟩
  obtain ⟨_, _, _, _, _, _, _, z⟩ := hs
  exact z.elim
end
section
variable {X : Cx} {W : WX} {k : Nat} {x : Str} {ps : List Str} {F : List S → M Rv} {p pos : Pos} {e : Expr} {es : List Expr} {g : List S → M (List S)}
theorem do_f (h : Okf X.prog X.w X.K X.mg X.base k x ps F) (hr : Room k X.A) (tk : Takes X W)
    (ha : DA X W (e :: es) g) (hlen : ∀ ρ cs ss cs', g ρ cs = .ok ss cs' → ss.length = ps.length) (hl : (e :: es).length = ps.length := by rfl) (hg : Gl X x := by rfl) (hdb : (x == ("__debug__" : Str)) = false := by decide) (he : starEach (e :: es) X.env = (false, eval e X.env) :: starEach es X.env := by rfl) (hpl : (backTo pos (starEach es X.env)).any (·.1) = false := by rfl)
    : DO X W (.Call (.Name x p) (e :: es) [] pos) (eCall F g) := by
  obtain ⟨f, fd, h1, _, h2, h3, h4⟩ := h
  exact do_call h2 hr tk h1 h4 h3 ha hl hg hdb he hpl hlen
theorem do_fC (h : Okf X.prog X.w X.K X.mg X.base k x ps F) (hr : Room k X.A) (tk : Takes X W)
    (ha : DA X W (e :: es) g) (hlen : ∀ ρ cs ss cs', g ρ cs = .ok ss cs' → ss.length = ps.length) (hl : (e :: es).length = ps.length := by rfl) (hg : Gl X x := by rfl) (hdb : (x == ("__debug__" : Str)) = false := by decide) (he : starEach (e :: es) X.env = (false, eval e X.env) :: starEach es X.env := by rfl) (hpl : (backTo pos (starEach es X.env)).any (·.1) = false := by rfl)
    : DO X W (.Call (.Name x p) (e :: es) [] pos) (eCallC F g) := by
  obtain ⟨f, fd, h1, _, h2, h3, h4⟩ := h
  exact do_callC h2 hr tk h1 h4 h3 ha hl hg hdb he hpl hlen
theorem do_fL (i : Nat) {y : Str} (h : Okf X.prog X.w X.K X.mg X.base k y ps F) (hr : Room k X.A)
    (ha : DA X W (e :: es) g) (hlen : ∀ ρ cs ss cs', g ρ cs = .ok ss cs' → ss.length = ps.length) (hN : X.N[i]? = some x := by rfl) (hv : Vis X.env.scope x := by first | exact Or.inl rfl | exact Or.inr (Or.inl rfl) | exact Or.inr (Or.inr rfl))
    (hdb : (x == ("__debug__" : Str)) = false := by decide) (hcd : (x == ("__classdict__" : Str)) = false := by decide) (he : starEach (e :: es) X.env = (false, eval e X.env) :: starEach es X.env := by rfl) (hpl : (backTo pos (starEach es X.env)).any (·.1) = false := by rfl)
    : DO X W (.Call (.Name x p) (e :: es) [] pos) (eCallL i (He.ga X.K y) F g) := by
  obtain ⟨f, fd, h1, rfl, h2, h3, h4⟩ := h
  exact do_callL i h2 hr h4 h3 ha hlen hN hv hdb hcd he hpl
end
end Dn

namespace Dn
open PySem L2 He
/-! ### the head: no list stands in what is told of it -/
def nl (o : Obj) : Bool := match o.cls with
  | .type c => c != "list"
  | _ => true
def frL (g : Addr → Option Obj) (as : List Addr) : PySem.W.Frag := (frG g as).filter fun q => nl q.2
theorem frL_mem {g : Addr → Option Obj} {as : List Addr} {a : Addr} {o : Obj} (h : (frL g as).lookup a = some o) : g a = some o ∧ nl o = true := by
  obtain ⟨h1, h2⟩ := List.mem_filter.mp (lookup_mem h)
  exact ⟨frG_mem h1, h2⟩
abbrev AlL : Type := AlD × Bool
def obsL (n : Nat) (fa : List Fa) (fn : List DefD) (fb : PySem.W.Frag → Bool) (g : Addr → Option Obj) : AlL := (obsD fa fn (frL g (He.asD g n)), fb (frL g (He.asD g n)))
def SaysL (fa : List Fa) (fn : List DefD) (fb : PySem.W.Frag → Bool) (K : PySem.W.Frag) : Prop := SaysD fa fn K ∧ fb K = true ∧ ∀ a o, K.lookup a = some o → o.cls ≠ .type "list"
def hookL (n : Nat) (fa : List Fa) (fn : List DefD) (fb : PySem.W.Frag → Bool) : PySem.W.Hook where
  α := AlL
  obs := fun s => obsL n fa fn fb s.heap.get?
  val := fun _ => (valD fn, true)
  says := fun _ h => ∃ K : PySem.W.Frag, K.In h ∧ SaysL fa fn fb K
  of := fun _ _ e => ⟨_, fun _ _ q => (frL_mem q).1, congrArg (fun z : AlL => z.1) e, congrArg (fun z : AlL => z.2) e, fun a o q z => by
    have h := (frL_mem q).2
    unfold nl at h
    rw [z] at h
    cases h⟩
  keeps := fun _ _ _ ⟨K, hK, c⟩ k => ⟨K, PySem.W.Frag.In.keeps hK k, c⟩
def obL (n : Nat) (fa : List Fa) (fn : List DefD) (fb : PySem.W.Frag → Bool) (s : PySem.W.SharedT) : AlL := obsL n fa fn fb (HandSHeadRun.getT s)
theorem obL_eq (n : Nat) (fa : List Fa) (fn : List DefD) (fb : PySem.W.Frag → Bool) (s : PySem.W.SharedT) : obL n fa fn fb s = (hookL n fa fn fb).obs s.abs := by
  have e : HandSHeadRun.getT s = s.abs.heap.get? := funext (HandSHeadRun.getT_eq s)
  unfold obL
  rw [e] <;> rfl
/-- a def of the text, as the hook looks at it -/
def dfd (x : Str) (st : Stmt) : DefD := ⟨(x, none), x, x, defArgs st, defBody st, defScope st, [], []⟩
section
variable {fa : List Fa} {fn : List DefD} {K : PySem.W.Frag} {mg : Str → Option Value} {h : Heap}
theorem dfn_of (X : K.In h) (G : h.Ns mainGlobals mg) (c : SaysD fa fn K) {x : Str} {st : Stmt} {ps : List Str} (i j : Nat) (hi : fn[i]? = some (dfd x st)) (hj : fa[j]? = some (.glo x))
    (hb : ∀ (kV doc pm : Value) (an : Option Addr) (cdv ct : Value) (us : List Value), us.length = ps.length → bindArgs (PySem.W.fnOf x x (defArgs st) (defBody st) (defScope st) .none kV doc pm an cdv ct) ⟨us, []⟩ = pure (ps.zip us)) : Dfn K mg x st ps := by
  obtain ⟨fd, F⟩ := c.def_ i hi
  exact ⟨glo_ok X G (c.fact j hj), fd, F, FunD.bindsN F hb⟩
end
/-- the law's end -/
theorem law_end {l : PySem.W.OpenLaw} {n k : Nat} {q : Program} {loose : List Str} {d : DefRec} {fa : List Fa} {fn : List DefD} {fb : PySem.W.Frag → Bool} {m : Nat} {XP : (Str → Option Value) → Heap → Prop} {x : Str} {F : PySem.W.Frag → List S → M Rv}
    (hn : l.most = some n) (hn2 : n ≤ sizeLine) (hdf : d.params.defaults = []) (hr : Room k callerA)
    (hF : ∀ (w : World) (mg : Str → Option Value) (h : Heap) (K : PySem.W.Frag), K.In h → SaysD fa fn K → fb K = true → h.Ns mainGlobals mg → ∃ fd : FuncData, mg d.name = some (.ref (ga K d.name)) ∧ (∀ (s : Shared) (u : Value), BindsTo s fd ⟨[u], []⟩ [(x, u)]) ∧
      ∀ base : Heap, K.In base → base.Ns mainGlobals mg → FnOk l.prog w K mg base (L2.CX l.prog w) k (ga K d.name) fd [x] (spE mg 1 (F K)))
    (hl : ∀ (K : PySem.W.Frag) (ns : List Int), ns.length ≤ n → ∃ cs', F K [.d (.list (ns.map .int))] [] = .ok (.d (.bool true)) cs') :
    PySem.W.WalkO q loose XP (hookL m fa fn fb).says l.row.toRowW d [] (fun f vs => PySem.call f vs) := by
  refine L2.walk_ofE (n := n) (k := k) (x := x) (CX := fun outer H s E u s' => ∃ w : World, L2.CX l.prog w outer H s E u s') hn hn2 hdf hr ?_ (fun H s e s' z => ?_)
  · intro w mg fa0 h Y G hmg
    obtain ⟨K, KX, c, cb, hno⟩ := Y
    obtain ⟨fd, hg, hb, hF'⟩ := hF w mg h K KX c cb G
    have e0 := hmg.symm.trans hg
    cases e0
    refine ⟨K, fd, spE mg 1 (F K), KX, hb, fun H a ns hlen _ hS => ?_, fun base k1 k2 => ?_⟩
    · have rd : Rd H a (.lst (ns.map V.int)) := by
        rcases hS with z | ⟨o, its, m', z1, z2, _⟩
        · exact z
        · exact absurd z2 (hno a o z1)
      have dd : Dds H (ns.map V.int) (ns.map PyData.int) := by
        clear hlen hS rd
        induction ns with
        | nil => exact .nil
        | cons i r ih => exact .cons (.int i) ih
      obtain ⟨cs', e⟩ := hl K ns hlen
      refine ⟨rfl, fun _ => none, [], [], H, [.d (.list (ns.map .int))], ⟨fun _ _ h => h, rfl, fun i s e => ?_, fun j o e => (by simp at e), rfl, List.nodup_nil, fun b z => (by simp at z), fun b o z => (by cases z), fun b z => absurd rfl z⟩, ?_⟩
      · cases i with
        | zero => simp at e; subst e; exact .inr ⟨.ref a, rfl, .lst rd dd⟩
        | succ i => simp at e
      · rw [e]
        intro Hf' H' v _ _ hv
        have hv' : Dd Hf' v (.bool true) := hv
        cases hv'
        rfl
    · have FN := hF' base k1 k2
      exact ⟨FN.len, fun A outer s H args us vs Q E h1 h2 h3 h4 h5 => codeAny_mono (FN.run A outer s H args us vs Q E h1 h2 h3 h4 h5) fun r s' hq => by
        cases r with
        | ok f => cases f <;> exact hq
        | error e => exact ⟨w, hq⟩⟩
  · obtain ⟨w, _, _, _, _, _, _, _, _, _, _, _, _, z⟩ := z
    exact z
end Dn

set_option Elab.async false
set_option linter.all false
set_option maxRecDepth 100000
set_option maxHeartbeats 1000000
/-! Dn9: short forms for printed texts. -/
namespace Dn
open PySem L2
theorem bt_len : bootBuiltins "len" = some (.builtin "len") := by decide +kernel
theorem bt_min : bootBuiltins "min" = some (.builtin "min") := by decide +kernel
theorem bt_max : bootBuiltins "max" = some (.builtin "max") := by decide +kernel
theorem bt_abs : bootBuiltins "abs" = some (.builtin "abs") := by decide +kernel
theorem bt_sum : bootBuiltins "sum" = some (.builtin "sum") := by decide +kernel
theorem bt_sorted : bootBuiltins "sorted" = some (.builtin "sorted") := by decide +kernel
theorem bt_int : bootBuiltins "int" = some (.type "int") := by decide +kernel
theorem bt_bool : bootBuiltins "bool" = some (.type "bool") := by decide +kernel
theorem bt_str : bootBuiltins "str" = some (.type "str") := by decide +kernel
theorem bt_list : bootBuiltins "list" = some (.type "list") := by decide +kernel
theorem bt_tuple : bootBuiltins "tuple" = some (.type "tuple") := by decide +kernel
theorem bt_dict : bootBuiltins "dict" = some (.type "dict") := by decide +kernel
theorem bt_set : bootBuiltins "set" = some (.type "set") := by decide +kernel
theorem hu65 {k : Nat} {A : Around} (r : Room k A) : A.units + 65 < cLine := by have := r.un; omega
def negD : D → Option D
  | .int i => some (.int (-i))
  | _ => none
def eNeg (fa : List S → M S) (ρ : List S) : M S := bnd (op1 negD fa ρ) fun d => ret (.d d)
/-- an exception class of the text -/
structure Exf (K : PySem.W.Frag) (mg : Str → Option Value) (x : Str) : Prop where
  g : mg x = some (.ref (He.ga K x))
  e : PySem.W.excIn K (He.ga K x) He.veBase "ValueError.__new__" = true ∧ PySem.W.keepIn K (.ref (He.ga K x)) = true ∧ PySem.W.subIn K (.ref (He.ga K x)) (.type "BaseException") = some true ∧ PySem.W.typeIn K (.ref (He.ga K x)) = some (.type "type")
section
variable {X : Cx} {W : WX} {a : Expr} {fa : List S → M S} {pos : Pos}
theorem de_neg (ha : DE X W a fa) : DE X W (.UnaryOp .USub a pos) (eNeg fa) := by
  obtain ⟨ta, pa, ka⟩ := ha
  refine ⟨_, pe_un un_neg pa, fun B ca ρ cs Hf σ H Q r h => ?_⟩
  refine op1_run ka r h fun ca2 Hf2 H2 cs2 x da z n2 r2 hx hz h2 => ?_
  unfold negD at hz
  split at hz
  · cases hz
    have := hx.int_; subst this
    exact ⟨_, rfl, h2.ret_ r2 _ (.int _)⟩
  · cases hz
theorem de_gI {x : Str} {i : Int} (hm : ∃ t, X.mg x = some (.int i t)) (hg : Gl X x := by rfl) (hd : (x == ("__debug__" : Str)) = false := by decide) : DE X W (.Name x pos) (eC (.int i)) :=
  let ⟨_, h⟩ := hm; de_globI h hg hd
theorem de_gS {x y : Str} (hm : ∃ t, X.mg x = some (.str y t)) (hg : Gl X x := by rfl) (hd : (x == ("__debug__" : Str)) = false := by decide) : DE X W (.Name x pos) (eC (.str y)) :=
  let ⟨_, h⟩ := hm; de_globS h hg hd
theorem dst_rs {x m : Str} {j : Nat} {p p2 p3 : Pos} (h : Exf X.K X.mg x) (tk : Takes X W) (hc : X.calm = true := by rfl) (hg : Gl X x := by rfl) (hdb : (x == ("__debug__" : Str)) = false := by decide) : DSt X W (.Raise (some (.Call (.Name x p) [.Constant (.str m) j p2] [] p3)) none pos) (sErr x) :=
  dst_raise tk PySem.F.excBase_ValueError h.e.1 h.g h.e.2.1 (raises_own h.e.2.2.1 h.e.2.2.2) hc hg hdb
end
theorem exf_of {fa : List He.Fa} {fn : List He.DefD} {K : PySem.W.Frag} {mg : Str → Option Value} {h : Heap} (X : K.In h) (G : h.Ns mainGlobals mg) (c : He.SaysD fa fn K) {x : Str} (i j : Nat) (hi : fa[i]? = some (.glo x)) (hj : fa[j]? = some (.exc x)) : Exf K mg x :=
  ⟨He.glo_ok X G (c.fact i hi), He.exc_ok (c.fact j hj)⟩
end Dn

set_option Elab.async false
set_option linter.all false
set_option maxRecDepth 100000
set_option maxHeartbeats 1000000
/-! Dn10: list comprehensions. -/
namespace Dn
open PySem L2
def Wf : WX := fun _ _ _ _ => False
def noEr {α : Type} (m : M α) : M α := fun cs => match m cs with
  | .er _ _ => .no
  | o => o
def wipeS (ρ : List S) : List Nat → List S
  | [] => ρ
  | v :: vs => (wipeS ρ vs).set v .no
def lcL (tg : D → List S → Option (List S)) (t : List S → M Bool) (f : List S → M S) (ρ : List S) : List D → List D → M Rv
  | [], acc => ret (.own (.lst acc))
  | x :: xs, acc => match tg x ρ with
    | none => stuck
    | some ρ1 => bnd (noEr (t ρ1)) fun b => if b = true then bnd (noEr (f ρ1)) fun y => (match y with
        | .d d => if acc.length < sizeLine then lcL tg t f ρ xs (acc ++ [d]) else stuck
        | _ => stuck)
      else lcL tg t f ρ xs acc
def eLc (it : List S → M (List D)) (tg : D → List S → Option (List S)) (t : List S → M Bool) (f : List S → M S) (vs : List Nat) (ρ : List S) : M Rv :=
  bnd (it ρ) fun xs => lcL tg t f (wipeS ρ vs) xs []
def tYesM (_ : List S) : M Bool := ret true
/-- a block's target -/
def DGb (X : Cx) (vs : List Nat) (tg : Expr) (g : D → List S → Option (List S)) : Prop := ∃ t : TG, PG X tg t ∧ ∀ (B : Hp) (ca : List Addr) (ρ ρ' : List S) (cs : Store) (Hf : Hp) (σ : L2.St) (H : Hp) (v : V) (d : D) (Q : L2.St → Hp → Prop), Rel B ca ρ cs Hf σ H → Dd Hf v d → g d ρ = some ρ' →
  (∀ σ', wipe σ' vs = wipe σ vs → Rel B ca ρ' cs Hf σ' H → Q σ' H) → t v σ H Q
def DGbs (X : Cx) (vs : List Nat) (tgs : List Expr) (g : List D → List S → Option (List S)) : Prop := ∃ t : TGs, PGs X tgs t ∧ ∀ (B : Hp) (ca : List Addr) (ρ ρ' : List S) (cs : Store) (Hf : Hp) (σ : L2.St) (H : Hp) (us : List V) (ds : List D) (Q : L2.St → Hp → Prop), Rel B ca ρ cs Hf σ H → Dds Hf us ds → g ds ρ = some ρ' →
  (∀ σ', wipe σ' vs = wipe σ vs → Rel B ca ρ' cs Hf σ' H → Q σ' H) → t us σ H Q
def DTs (X : Cx) (W : WX) (ifs : List Expr) (f : List S → M Bool) : Prop := ∃ t : TT, PTs X ifs t ∧ ∀ (B : Hp) (ca : List Addr) (ρ : List S) (cs : Store) (Hf : Hp) (σ : L2.St) (H : Hp) (Q : Bool → Hp → Prop), Rel B ca ρ cs Hf σ H →
  Gs X W B ca Hf ρ σ (f ρ cs) (fun _ _ H' _ b => Q b H') → t σ H Q
section
variable {X : Cx} {W : WX} {pos : Pos} {vs : List Nat}
theorem wipe_set {σ : St} {i : Nat} {x : Option V} : ∀ {vs : List Nat}, i ∈ vs → wipe (σ.set i x) vs = wipe σ vs
  | v :: vs, h => by
    show (wipe (σ.set i x) vs).set v none = (wipe σ vs).set v none
    by_cases hv : i ∈ vs
    · rw [wipe_set hv]
    · have e : i = v := by
        rcases List.mem_cons.1 h with h | h
        · exact h
        · exact absurd h hv
      subst e
      have : ∀ {vs : List Nat}, i ∉ vs → wipe (σ.set i x) vs = (wipe σ vs).set i x := by
        intro vs hv
        induction vs with
        | nil => rfl
        | cons v vs ih =>
          simp only [List.mem_cons, not_or] at hv
          show (wipe (σ.set i x) vs).set v none = ((wipe σ vs).set v none).set i x
          rw [ih hv.2, List.set_comm _ _ hv.1]
      rw [this hv, List.set_set]
theorem wipe_wipe (σ : St) : ∀ (vs us : List Nat), (∀ i ∈ us, i ∈ vs) → wipe (wipe σ us) vs = wipe σ vs
  | vs, [], _ => rfl
  | vs, u :: us, h => by
    show wipe ((wipe σ us).set u none) vs = wipe σ vs
    rw [wipe_set (h u (by simp)), wipe_wipe σ vs us fun i hi => h i (by simp [hi])]
theorem Rel.wipe {B : Hp} {ca : List Addr} {ρ : List S} {cs : Store} {Hf : Hp} {σ : L2.St} {H : Hp} (r : Rel B ca ρ cs Hf σ H) : ∀ vs : List Nat, Rel B ca (wipeS ρ vs) cs Hf (wipe σ vs) H
  | [] => r
  | v :: vs => (Rel.wipe r vs).lose v none
theorem dgb_name (i : Nat) {x : Str} (hN : X.N.Nodup) (hv : i ∈ vs := by decide) (hi : X.N[i]? = some x := by rfl) (hx : Loc X.env.scope x := by first | exact Or.inl rfl | exact Or.inr rfl)
    (hf : X.fn x = true ∨ X.env.scope.names.lookup x = some .local := by first | exact .inl rfl | exact .inr rfl) : DGb X vs (.Name x pos) (gtN i) := by
  refine ⟨_, pg_name hN hi hx hf, fun B ca ρ ρ' cs Hf σ H v d Q r hd e q => ?_⟩
  cases e
  exact q _ (wipe_set hv) (r.set i hd)
theorem dgbs_nil : DGbs X vs [] gtsNil := by
  refine ⟨_, pgs_nil, fun B ca ρ ρ' cs Hf σ H us ds Q r hv e q => ?_⟩
  unfold gtsNil at e
  split at e
  · cases e
    cases hv
    exact ⟨rfl, q _ rfl r⟩
  · cases e
theorem dgbs_cons {tg : Expr} {tgs : List Expr} {g : D → List S → Option (List S)} {gs : List D → List S → Option (List S)} (h : DGb X vs tg g) (hs : DGbs X vs tgs gs)
    (he : (assignEach (tg :: tgs) X.env).map (·.2) = assign tg X.env :: (assignEach tgs X.env).map (·.2) := by rfl) : DGbs X vs (tg :: tgs) (gtsCons g gs) := by
  obtain ⟨t, p, k⟩ := h
  obtain ⟨u, q, l⟩ := hs
  refine ⟨_, pgs_cons p q he, fun B ca ρ ρ' cs Hf σ H us ds Q r hv e qq => ?_⟩
  unfold gtsCons at e
  split at e
  · rename_i x xs
    cases hv with
    | cons hv ht =>
      cases z : g x ρ with
      | none => rw [z] at e; cases e
      | some ρ1 =>
        rw [z] at e
        exact ⟨_, _, rfl, k B ca ρ ρ1 cs Hf σ H _ _ _ r hv z fun σ1 w1 r1 => l B ca ρ1 ρ' cs Hf σ1 H _ _ Q r1 ht e fun σ2 w2 r2 => qq σ2 (w2.trans w1) r2⟩
  · cases e
theorem dgb_tup {es : List Expr} {k : Nat} {gs : List D → List S → Option (List S)} (n : Nat) (hs : DGbs X vs es gs) (hl : ∀ ds ρ ρ', gs ds ρ = some ρ' → ds.length = n) (hc : X.calm = true := by rfl)
    (hn : (assignEach es X.env).length = n := by rfl) (hst : (assignEach es X.env).findIdx? (·.1) = none := by rfl) : DGb X vs (.Tuple es k pos) (gtT gs) := by
  obtain ⟨u, q, l⟩ := hs
  refine ⟨_, pg_tup hc q hn hst, fun B ca ρ ρ' cs Hf σ H v d Q r hv e qq => ?_⟩
  unfold gtT at e
  split at e
  · rename_i xs
    cases hv with
    | tup h1 h2 =>
      exact ⟨_, _, rfl, .inl (rd_ex r.ext h1), (dps_len h2).trans (hl _ _ _ e), l B ca ρ ρ' cs Hf σ H _ _ Q r h2 e qq⟩
  · cases e
theorem dts_nil : DTs X W [] tYesM := ⟨_, pts_nil, fun B ca ρ cs Hf σ H Q r h => h.ret_ r⟩
theorem dts_one {c : Expr} {t : List S → M Bool} (h : DT X W c t) : DTs X W [c] t := let ⟨t, p, k⟩ := h; ⟨t, pts_one p, k⟩
theorem Gs.noEr_ {α : Type} {B : Hp} {ca : List Addr} {Hf : Hp} {ρ : List S} {σ : L2.St} {m : M α} {cs : Store} {β : Type} {k : α → M β} {P' : List Addr → Hp → Hp → Store → β → Prop} (h : Gs X W B ca Hf ρ σ (bnd (noEr m) k cs) P') :
    (∀ a cs', m cs = .ok a cs' → Gs X W B ca Hf ρ σ (k a cs') P') ∧ m cs ≠ .no ∧ ∀ c cs', m cs ≠ .er c cs' := by
  unfold bnd noEr at h
  cases e : m cs with
  | ok a cs' =>
    rw [e] at h
    refine ⟨fun a' cs'' e' => ?_, by simp, by simp⟩
    cases e'
    exact h
  | er c cs' => rw [e] at h; exact h.elim
  | no => rw [e] at h; exact h.elim
end
/-- banned things left out -/
theorem Rel.less {B B' : Hp} {ca : List Addr} {ρ : List S} {cs : Store} {Hf : Hp} {σ : L2.St} {H : Hp} (r : Rel B' ca ρ cs Hf σ H) (h : Ex B B') : Rel B ca ρ cs Hf σ H :=
  ⟨r.ext, r.len, r.sl, r.cells, r.lenc, r.nd, r.off, fun a o e => r.exb a o (h a o e), fun a e => r.dis a (by
    cases q : B a with
    | none => exact absurd q e
    | some o => rw [h a o q]; simp)⟩
section
variable {X : Cx} {W : WX} {pos : Pos} {elt tg iter : Expr} {ifs : List Expr} {scope : Scope} {own : List (Str × Nat)} {it : List S → M (List D)} {g : D → List S → Option (List S)} {t : List S → M Bool} {f : List S → M S}
def tgOf (g : D → List S → Option (List S)) (vs : List Nat) : TG := fun v σ H Q => ∃ (B : Hp) (ca : List Addr) (ρ ρ' : List S) (cs : Store) (Hf : Hp) (d : D), Rel B ca ρ cs Hf σ H ∧ Dd Hf v d ∧ g d ρ = some ρ' ∧ ∀ σ', wipe σ' vs = wipe σ vs → Rel B ca ρ' cs Hf σ' H → Q σ' H
def ttOf (X : Cx) (t : List S → M Bool) : TT := fun σ H Q => ∃ (B : Hp) (ca : List Addr) (ρ : List S) (cs : Store) (Hf : Hp), Rel B ca ρ cs Hf σ H ∧ Gs X Wf B ca Hf ρ σ (t ρ cs) (fun _ _ H' _ b => Q b H')
def teOf (X : Cx) (f : List S → M S) : TE := fun σ H Q => ∃ (B : Hp) (ca : List Addr) (ρ : List S) (cs : Store) (Hf : Hp), Rel B ca ρ cs Hf σ H ∧ Gs X Wf B ca Hf ρ σ (f ρ cs) (fun ca' Hf' H' _ s => ∀ v, SvOk ca' Hf' s v → Q v H')
/-- what a comprehension's loop asks -/
theorem lc_run {wi : TI} {vs : List Nat} (ki : ∀ (B : Hp) (ca : List Addr) (ρ : List S) (cs : Store) (Hf : Hp) (σ : L2.St) (H : Hp) (R : It → Hp → Prop), Rel B ca ρ cs Hf σ H →
    Gs X W B ca Hf ρ σ (it ρ cs) (fun ca' Hf' H' cs' xs => ∀ J, (∀ B2 ca2 ρ2 cs2 Hf2 σ2 H2 (i : Nat), Nx ca' Hf' ca2 Hf2 → Rel B2 ca2 ρ2 cs2 Hf2 σ2 H2 → i ≤ xs.length →
      (i = xs.length → J.stop i H2) ∧ (i < xs.length → J.go i H2 ∧ ∀ x H3, J.yld i H2 x H3 → ∃ Hf3, Nx ca2 Hf2 ca2 Hf3 ∧ Rel B2 ca2 ρ2 cs2 Hf3 σ2 H3 ∧ ∃ d, xs[i]? = some d ∧ Dd Hf3 x d)) → R J H') → wi σ H R)
    {B : Hp} {ca : List Addr} {ρ : List S} {cs : Store} {Hf : Hp} {σ : L2.St} {H : Hp} {Q : VK} (r : Rel B ca ρ cs Hf σ H) (h : Gs X W B ca Hf ρ σ (eLc it g t f vs ρ cs) (fun ca' Hf' H' _ rv => ∀ v, RvOk B ca' Hf' H' rv v → Q v H')) :
    tLc wi (tgOf g vs) (ttOf X t) (teOf X f) vs σ H Q := by
  refine ki B ca ρ cs Hf σ H _ r (h.bind.mono fun ca1 Hf1 H1 cs1 xs n1 r1 h1 J hJ => fun D hD => ?_)
  obtain ⟨d1, d2, d3⟩ := r1.newIn hD
  have exn : ∀ vs, Ex B (upd B D (.lst vs)) := fun vs => ex_new d3
  refine ⟨fun i m H2 => m = xs.length - i ∧ i ≤ xs.length ∧ ∃ ca2 cs2 Hf2 acc accV, Nx ca1 Hf1 ca2 Hf2 ∧ Dds Hf2 accV acc ∧ Rel (upd B D (.lst accV)) ca2 ρ cs2 Hf2 σ H2 ∧ Gs X W B ca2 Hf2 ρ σ (lcL g t f (wipeS ρ vs) (xs.drop i) acc cs2) (fun ca' Hf' H' _ rv => ∀ v, RvOk B ca' Hf' H' rv v → Q v H'),
    ⟨xs.length, by simp, Nat.zero_le _, ca1, cs1, Hf1, [], [], Nx.refl, .nil, ?_, h1⟩, ?_⟩
  · have r2 := r1.grow (ex_new (o := .lst []) hD)
    refine ⟨r2.ext, r2.len, r2.sl, r2.cells, r2.lenc, r2.nd, r2.off, fun a o e => ?_, fun a e => ?_⟩
    · by_cases q : a = D
      · subst q; rw [upd_same] at e ⊢; exact e
      · rw [upd_ne q] at e ⊢; exact r1.exb a o e
    · by_cases q : a = D
      · subst q; exact ⟨d1, d2⟩
      · rw [upd_ne q] at e; exact r1.dis a e
  rintro i m H2 ⟨rfl, hi, ca2, cs2, Hf2, acc, accV, n2, da, r2, h2⟩
  have r2B := r2.less (exn accV)
  obtain ⟨hstop, hgo⟩ := hJ (upd B D (.lst accV)) ca2 ρ cs2 Hf2 σ H2 i n2 r2 hi
  by_cases hlt : i < xs.length
  · obtain ⟨go, yl⟩ := hgo hlt
    refine .inr ⟨go, fun H' => i + 1 ≤ xs.length ∧ ∃ ca2 cs2 Hf2 acc accV, Nx ca1 Hf1 ca2 Hf2 ∧ Dds Hf2 accV acc ∧ Rel (upd B D (.lst accV)) ca2 ρ cs2 Hf2 σ H' ∧ Gs X W B ca2 Hf2 ρ σ (lcL g t f (wipeS ρ vs) (xs.drop (i + 1)) acc cs2) (fun ca' Hf' H' _ rv => ∀ v, RvOk B ca' Hf' H' rv v → Q v H'),
      fun H' p' => ⟨xs.length - (i + 1), by omega, rfl, p'.1, p'.2⟩, fun x H3 y => ?_⟩
    obtain ⟨Hf3, n3, r3, d, ed, hd⟩ := yl x H3 y
    have ed' : xs.drop i = d :: xs.drop (i + 1) := by
      rw [List.drop_eq_getElem_cons hlt]
      rw [List.getElem?_eq_getElem hlt] at ed
      rw [Option.some.inj ed]
    rw [ed'] at h2
    unfold lcL at h2
    cases eg : g d (wipeS ρ vs) with
    | none => rw [eg] at h2; exact h2.elim
    | some ρ1 =>
      rw [eg] at h2
      refine ⟨upd B D (.lst accV), ca2, wipeS ρ vs, ρ1, cs2, Hf3, d, r3.wipe vs, hd, eg, fun σ2 w2 r4 => ⟨w2.trans (wipe_wipe σ vs vs fun _ h => h), ?_⟩⟩
      have h3 := Gs.fwd h2 n3
      obtain ⟨k1, k2, k3⟩ := Gs.noEr_ h3
      refine ⟨upd B D (.lst accV), ca2, ρ1, cs2, Hf3, r4, ?_⟩
      cases et : t ρ1 cs2 with
      | no => exact absurd et k2
      | er c cs' => exact absurd et (k3 c cs')
      | ok b cs3 =>
        have h4 := k1 b cs3 et
        intro ca4 Hf4 H4 n4 r5
        have back := fun {σ' : L2.St} {ρ' : List S} {cs' : Store} {ca' : List Addr} {Hf' H' : Hp} {V : List V} (n : Nx ca2 Hf2 ca' Hf') (r' : Rel (upd B D (.lst V)) ca' ρ' cs' Hf' σ' H') => Rel.slots (ρ' := ρ) (σ' := σ) r' r2.len fun i s e => by
          rcases r2.sl i s e with z | ⟨v, h1, h2⟩
          · exact .inl z
          · exact .inr ⟨v, h1, h2.nx n⟩
        cases b with
        | false =>
          refine ⟨hlt, ca4, cs3, Hf4, acc, accV, (n2.trans n3).trans n4, dps_ex (n3.trans n4).ex da, back (n3.trans n4) r5, ?_⟩
          exact Gs.fwd h4 n4
        | true =>
          have h5 := Gs.fwd h4 n4
          obtain ⟨j1, j2, j3⟩ := Gs.noEr_ h5
          refine ⟨upd B D (.lst accV), ca4, ρ1, cs3, Hf4, r5, ?_⟩
          cases ef : f ρ1 cs3 with
          | no => exact absurd ef j2
          | er c cs' => exact absurd ef (j3 c cs')
          | ok y cs4 =>
            have h6 := j1 y cs4 ef
            intro ca5 Hf5 H5 n5 r6 v hv
            cases y with
            | no => exact h6.elim
            | cel j => exact h6.elim
            | fn a => exact h6.elim
            | d z =>
              have h7 : Gs X W B ca4 Hf4 ρ σ ((if acc.length < sizeLine then lcL g t f (wipeS ρ vs) (xs.drop (i + 1)) (acc ++ [z]) else stuck) cs4) _ := h6
              split at h7
              · rename_i hz
                have hl := dps_len da
                refine ⟨accV, r6.exb D _ upd_same, by rw [hl]; exact hz, hlt, ca5, cs4, Hf5, acc ++ [z], accV ++ [v], ((n2.trans n3).trans n4).trans n5, dps_app (dps_ex ((n3.trans n4).trans n5).ex da) (.cons hv .nil), ?_, Gs.fwd h7 n5⟩
                have r7 := back ((n3.trans n4).trans n5) r6
                have dD := r7.dis D (by rw [upd_same]; simp)
                refine ⟨fun a o e => ?_, r7.len, r7.sl, fun j o e => ?_, r7.lenc, r7.nd, r7.off, fun a o e => ?_, fun a e => ?_⟩
                · by_cases q : a = D
                  · subst q; rw [dD.1] at e; cases e
                  · rw [upd_ne q]; exact r7.ext a o e
                · obtain ⟨a, g1, g2⟩ := r7.cells j o e
                  refine ⟨a, g1, g2.at (upd_ne ?_) fun _ _ h => h⟩
                  intro q
                  subst q
                  exact dD.2 (List.mem_of_getElem? g1)
                · by_cases q : a = D
                  · subst q; rw [upd_same] at e ⊢; exact e
                  · rw [upd_ne q] at e ⊢
                    exact r7.exb a o (by rw [upd_ne q]; exact e)
                · by_cases q : a = D
                  · subst q; exact dD
                  · rw [upd_ne q] at e; exact r7.dis a (by rw [upd_ne q]; exact e)
              · exact h7.elim
  · have e : i = xs.length := by omega
    refine .inl ⟨hstop e, ?_⟩
    rw [e, List.drop_length] at h2
    have h3 := Gs.ret_ (show Gs X W B ca2 Hf2 ρ σ (ret (Rv.own (OC.lst acc)) cs2) (fun ca' Hf' H' _ rv => ∀ v, RvOk B ca' Hf' H' rv v → Q v H') from h2) r2B
    have dD := r2.dis D (by rw [upd_same]; simp)
    exact h3 (.ref D) ⟨D, rfl, ⟨accV, r2.exb D _ upd_same, da⟩, dD.1, dD.2, d3⟩
theorem do_lc (own : List (Str × Nat)) (hN : X.N.Nodup) (hi : DI X W tg iter it)
    (hg : ∀ (s : Shared) (H : Hp) (C : Addr) (cl : List (Str × Addr)) (fp : List Addr), DGb (X.blk s H scope (compEnvC scope cl C X.env) fp) (own.map (·.2)) tg g)
    (ht : ∀ (s : Shared) (H : Hp) (C : Addr) (cl : List (Str × Addr)) (fp : List Addr), DTs (X.blk s H scope (compEnvC scope cl C X.env) fp) Wf ifs t)
    (he : ∀ (s : Shared) (H : Hp) (C : Addr) (cl : List (Str × Addr)) (fp : List Addr), DE (X.blk s H scope (compEnvC scope cl C X.env) fp) Wf elt f)
    (hk : blkC X.N X.env.scope scope own = true := by rfl) (hc : X.calm = true := by rfl) (hs : ∀ x, foldedSetIterable iter X.env x = pure x := by intro _; rfl) :
    DO X W (.ListComp elt [⟨tg, iter, ifs, 0⟩] scope pos) (eLc it g t f (own.map (·.2))) := by
  obtain ⟨wi, pi, ki⟩ := hi
  refine ⟨_, pe_lc (g := tgOf g (own.map (·.2))) (tt := ttOf X t) (te := teOf X f) hc hN pi (blkOk_by hk) (fun s H C cl fp => ?_) (fun s H C cl fp => ?_) (fun s H C cl fp => ?_) hs, fun B ca ρ cs Hf σ H Q r h => lc_run ki r h⟩
  · obtain ⟨t', p, k⟩ := hg s H C cl fp
    exact ⟨fun pins s σ H v u Q I rv ⟨B, ca, ρ, ρ', cs, Hf, d, r, hd, e, q⟩ => p.run pins s σ H v u Q I rv (k B ca ρ ρ' cs Hf σ H v d Q r hd e q)⟩
  · obtain ⟨t', p, k⟩ := ht s H C cl fp
    exact ⟨fun pins s σ H Q I ⟨B, ca, ρ, cs, Hf, r, h⟩ => p.run pins s σ H Q I (k B ca ρ cs Hf σ H Q r h)⟩
  · obtain ⟨t', p, k⟩ := he s H C cl fp
    exact ⟨fun pins s σ H Q I ⟨B, ca, ρ, cs, Hf, r, h⟩ => p.run pins s σ H Q I (k B ca ρ cs Hf σ H Q r h)⟩
/-- name = [..], on one line -/
theorem dst_newLc (i : Nat) (own : List (Str × Nat)) {y : Str} {py spos : Pos} (hN : X.N.Nodup) (hi : DI X W tg iter it)
    (hg : ∀ (s : Shared) (H : Hp) (C : Addr) (cl : List (Str × Addr)) (fp : List Addr), DGb (X.blk s H scope (compEnvC scope cl C X.env) fp) (own.map (·.2)) tg g)
    (ht : ∀ (s : Shared) (H : Hp) (C : Addr) (cl : List (Str × Addr)) (fp : List Addr), DTs (X.blk s H scope (compEnvC scope cl C X.env) fp) Wf ifs t)
    (he : ∀ (s : Shared) (H : Hp) (C : Addr) (cl : List (Str × Addr)) (fp : List Addr), DE (X.blk s H scope (compEnvC scope cl C X.env) fp) Wf elt f)
    (hy : X.N[i]? = some y := by rfl) (hyl : X.env.scope.names.lookup y = some .local := by rfl) (hkf : X.env.scope.kind = .function := by rfl) (hl : (py.line == pos.line) = true := by rfl)
    (hL : pos.line = spos.line := by rfl) (ha : (scope.names.any fun (n, k) => n == y && (k == .local || k == .cell)) = false := by rfl)
    (hk : blkC X.N X.env.scope scope own = true := by rfl) (hc : X.calm = true := by rfl) (hs : ∀ x, foldedSetIterable iter X.env x = pure x := by intro _; rfl) :
    DSt X W (.Assign [.Name y py] (.ListComp elt [⟨tg, iter, ifs, 0⟩] scope pos) spos) (sNew i (eLc it g t f (own.map (·.2)))) := by
  obtain ⟨wi, pi, ki⟩ := hi
  refine ⟨_, ps_setLc (g := tgOf g (own.map (·.2))) (tt := ttOf X t) (te := teOf X f) hc hN hy hyl (sw_true hkf hyl hl ha) pi (blkOk_by hk) (fun s H C cl fp => ?_) (fun s H C cl fp => ?_) (fun s H C cl fp => ?_) hs, fun B ca ρ cs Hf σ H En r hg => ?_⟩
  · obtain ⟨t', p, k⟩ := hg s H C cl fp
    exact ⟨fun pins s σ H v u Q I rv ⟨B, ca, ρ, ρ', cs, Hf, d, r, hd, e, q⟩ => p.run pins s σ H v u Q I rv (k B ca ρ ρ' cs Hf σ H v d Q r hd e q)⟩
  · obtain ⟨t', p, k⟩ := ht s H C cl fp
    exact ⟨fun pins s σ H Q I ⟨B, ca, ρ, cs, Hf, r, h⟩ => p.run pins s σ H Q I (k B ca ρ cs Hf σ H Q r h)⟩
  · obtain ⟨t', p, k⟩ := he s H C cl fp
    exact ⟨fun pins s σ H Q I ⟨B, ca, ρ, cs, Hf, r, h⟩ => p.run pins s σ H Q I (k B ca ρ cs Hf σ H Q r h)⟩
  · refine lc_run (W := W) ki r (hg.stp_.mono fun ca1 Hf1 H1 cs1 rv n1 r1 h1 v hv => ?_)
    cases rv with
    | d x => exact h1.nx_ (r1.set (s := .d x) i hv)
    | cel j => exact h1.nx_ (r1.set (s := .cel j) i hv)
    | own o =>
      obtain ⟨a, rfl, r2, e2⟩ := r1.alloc hv
      exact h1 (ca1 ++ [a]) Hf1 _ H1 ⟨List.prefix_append _ _, fun _ _ h => h⟩ (r2.set (s := .cel cs1.length) i ⟨a, e2, rfl⟩)
/-- name = [..], on one line -/
theorem dst_setLc (i : Nat) (own : List (Str × Nat)) {y : Str} {py spos : Pos} (hN : X.N.Nodup) (hi : DI X W tg iter it)
    (hg : ∀ (s : Shared) (H : Hp) (C : Addr) (cl : List (Str × Addr)) (fp : List Addr), DGb (X.blk s H scope (compEnvC scope cl C X.env) fp) (own.map (·.2)) tg g)
    (ht : ∀ (s : Shared) (H : Hp) (C : Addr) (cl : List (Str × Addr)) (fp : List Addr), DTs (X.blk s H scope (compEnvC scope cl C X.env) fp) Wf ifs t)
    (he : ∀ (s : Shared) (H : Hp) (C : Addr) (cl : List (Str × Addr)) (fp : List Addr), DE (X.blk s H scope (compEnvC scope cl C X.env) fp) Wf elt f)
    (hy : X.N[i]? = some y := by rfl) (hyl : X.env.scope.names.lookup y = some .local := by rfl) (hkf : X.env.scope.kind = .function := by rfl) (hl : (py.line == pos.line) = true := by rfl)
    (hL : pos.line = spos.line := by rfl) (ha : (scope.names.any fun (n, k) => n == y && (k == .local || k == .cell)) = false := by rfl)
    (hk : blkC X.N X.env.scope scope own = true := by rfl) (hc : X.calm = true := by rfl) (hs : ∀ x, foldedSetIterable iter X.env x = pure x := by intro _; rfl) :
    DSt X W (.Assign [.Name y py] (.ListComp elt [⟨tg, iter, ifs, 0⟩] scope pos) spos) (sSet i (eFrz (eLc it g t f (own.map (·.2))))) := by
  obtain ⟨wi, pi, ki⟩ := hi
  refine ⟨_, ps_setLc (g := tgOf g (own.map (·.2))) (tt := ttOf X t) (te := teOf X f) hc hN hy hyl (sw_true hkf hyl hl ha) pi (blkOk_by hk) (fun s H C cl fp => ?_) (fun s H C cl fp => ?_) (fun s H C cl fp => ?_) hs, fun B ca ρ cs Hf σ H En r hg => ?_⟩
  · obtain ⟨t', p, k⟩ := hg s H C cl fp
    exact ⟨fun pins s σ H v u Q I rv ⟨B, ca, ρ, ρ', cs, Hf, d, r, hd, e, q⟩ => p.run pins s σ H v u Q I rv (k B ca ρ ρ' cs Hf σ H v d Q r hd e q)⟩
  · obtain ⟨t', p, k⟩ := ht s H C cl fp
    exact ⟨fun pins s σ H Q I ⟨B, ca, ρ, cs, Hf, r, h⟩ => p.run pins s σ H Q I (k B ca ρ cs Hf σ H Q r h)⟩
  · obtain ⟨t', p, k⟩ := he s H C cl fp
    exact ⟨fun pins s σ H Q I ⟨B, ca, ρ, cs, Hf, r, h⟩ => p.run pins s σ H Q I (k B ca ρ cs Hf σ H Q r h)⟩
  · refine lc_run (W := W) ki r (hg.stp_.bind.mono fun ca1 Hf1 H1 cs1 rv n1 r1 h1 v hv => ?_)
    cases rv with
    | d x => exact GO.nx_ ((show Gs X W B ca1 Hf1 ρ σ (ret (S.d x) cs1) _ from h1).ret_ r1) (r1.set (s := .d x) i hv)
    | cel j => exact GO.nx_ ((show Gs X W B ca1 Hf1 ρ σ (ret (S.cel j) cs1) _ from h1).ret_ r1) (r1.set (s := .cel j) i hv)
    | own o =>
      cases o with
      | lst xs =>
        obtain ⟨Hf2, r2, n2, dd⟩ := r1.own hv
        exact GO.nx_ ((Gs.fwd (show Gs X W B ca1 Hf1 ρ σ (ret (S.d (.list xs)) cs1) _ from h1) n2).ret_ r2) (r2.set (s := .d (.list xs)) i dd)
      | dK kvs => exact h1.elim
theorem takesWf : Takes X Wf := fun _ _ h => by
  obtain ⟨_, _, _, _, _, _, _, _, _, _, _, _, _, _, _, _, z⟩ := h
  exact z.elim
end
end Dn

set_option Elab.async false
set_option linter.all false
set_option maxRecDepth 100000
set_option maxHeartbeats 4000000
/-! Dn11: len(set(xs)), walks over texts. -/
namespace Dn
open PySem L2
open PySem.Spec PyProof.Rows
def mK (l : List Key) (k : Key) : Bool := l.any fun x => decide (x = k)
theorem mK_iff (l : List Key) (k : Key) : mK l k = true ↔ k ∈ l := by simp [mK]
def dd1 (l : List Key) (k : Key) : List Key := if mK l k = true then l else l ++ [k]
/-- what is met first, of keys -/
def fmK (ks : List Key) : List Key := ks.foldl dd1 []
theorem fmK_snoc (ks : List Key) (k : Key) : fmK (ks ++ [k]) = dd1 (fmK ks) k := by
  unfold fmK; rw [List.foldl_append]; rfl
theorem sd_any (l : List Key) (v k : Key) : mK (dd1 l v) k = (mK l k || decide (k = v)) := by
  unfold dd1
  by_cases h : mK l v = true
  · rw [if_pos h]
    by_cases e : k = v
    · subst e; simp [h]
    · simp [e]
  · rw [if_neg h]
    simp only [mK, List.any_append, List.any_cons, List.any_nil, Bool.or_false]
    congr 1
    exact decide_eq_decide.2 eq_comm
theorem sd_len (l : List Key) (v : Key) : (dd1 l v).length = if mK l v = true then l.length else l.length + 1 := by
  unfold dd1; split <;> simp
theorem fmK_le0 (ks : List Key) : ∀ l : List Key, (ks.foldl dd1 l).length ≤ l.length + ks.length := by
  induction ks with
  | nil => intro l; exact Nat.le_refl _
  | cons k ks ih =>
    intro l
    have h := ih (dd1 l k)
    have h2 := sd_len l k
    rw [List.foldl_cons, List.length_cons]
    split at h2 <;> omega
theorem fmK_le (ks : List Key) : (fmK ks).length ≤ ks.length := by
  have := fmK_le0 ks []
  simpa [fmK] using this
/-- keys of data -/
def kyD : D → Option Key
  | .int i => some (.inl i)
  | .str x => some (.inr x)
  | _ => none
def kysD : List D → Option (List Key)
  | [] => some []
  | x :: xs => match kyD x, kysD xs with
    | some k, some ks => some (k :: ks)
    | _, _ => none
/-! ### a set that can be walked -/
def kvV : Value → Key
  | .int i _ => .inl i
  | .str x _ => .inr x
  | _ => .inl 0
theorem kvV_is {v : Value} {k k' : Key} (h : keyIs k v = true) : keyIs k' v = true ↔ kvV v = k' := by
  rcases keyIs_shape h with ⟨i, t, rfl, rfl⟩ | ⟨x, t, rfl, rfl⟩
  · constructor
    · intro q
      rcases keyIs_shape q with ⟨j, u, rfl, e⟩ | ⟨y, u, rfl, e⟩
      · injection e with e1 _; rw [e1]; rfl
      · cases e
    · rintro rfl
      exact keyIs_int i t
  · constructor
    · intro q
      rcases keyIs_shape q with ⟨j, u, rfl, e⟩ | ⟨y, u, rfl, e⟩
      · cases e
      · injection e with e1 _; rw [e1]; rfl
    · rintro rfl
      exact keyIs_str x t
theorem kvV_self {v : Value} {k : Key} (h : keyIs k v = true) : kvV v = k := (kvV_is h).mp h
def kvE (e : Int × Value) : Key := kvV e.2
def GdE (w : World) (e : Int × Value) : Prop := ∃ k, keyIs k e.2 = true ∧ e.1 = keyH w k
theorem scan_of {v : Value} {k : Key} (h : keyIs k v = true) : v.scannable = true := by
  rcases keyIs_shape h with ⟨i, t, rfl, rfl⟩ | ⟨x, t, rfl, rfl⟩ <;> rfl
/-- the set at a holds the keys ks, one each, and can be walked -/
def SetX (w : World) (h : Heap) (a : Addr) (ks : List Key) : Prop :=
  ∃ o es ep t, h.get? a = some o ∧ o.ExactSet ∧ o.data = .set es ep t ∧ (∀ e ∈ es.toList, GdE w e) ∧ ks.Nodup ∧ (es.toList.map kvE).Perm ks ∧
    es.size < scanBound ∧ t.fits es.size = true ∧ Ris t.place.toList ∧ (w.params.followText "set-order" = true ∨ t.led = true)
section
variable {P : Program} {w : World} {h h' : Heap} {a : Addr} {ks : List Key}
theorem SetX.at (R : SetX w h a ks) (k : ∀ o, h.get? a = some o → h'.get? a = some o) : SetX w h' a ks := by
  obtain ⟨o, es, ep, t, ho, r⟩ := R
  exact ⟨o, es, ep, t, k o ho, r⟩
theorem gd_elems {l : List (Int × Value)} (g : ∀ e ∈ l, GdE w e) : ElemsOf (mixKind P w) l := fun e he => by
  obtain ⟨k, h1, h2⟩ := g e he
  exact ⟨⟨k, h1, h2⟩, scan_of h1⟩
theorem gd_mem {l : List (Int × Value)} (g : ∀ e ∈ l, GdE w e) (k : Key) : k ∈ l.map kvE ↔ ∃ e ∈ l, (mixKind P w).is k e.2 = true := by
  rw [List.mem_map]
  constructor
  · rintro ⟨e, he, q⟩
    obtain ⟨k0, h1, _⟩ := g e he
    exact ⟨e, he, (kvV_is h1).2 q⟩
  · rintro ⟨e, he, q⟩
    obtain ⟨k0, h1, _⟩ := g e he
    exact ⟨e, he, (kvV_is h1).1 q⟩
end
section
variable {P : Program} {w : World} {A : Around} {E : Value → Shared → Prop} {s : Shared} {a : Addr} {ks : List Key}
theorem putX_at {h : Heap} {o : Obj} {es es' : Array (Int × Value)} {ep : Nat} {t t' : SetTable} (ho : h.get? a = some o) (hd : o.data = .set es ep t) :
    (h.update a (Obj.putSet es' t')).get? a = some { o with data := .set es' (ep + 1) t' } := by
  have q := Heap.get?_update_self (Obj.putSet es' t') ho (by rw [putSet_of es' t' hd]; rfl)
  rwa [putSet_of es' t' hd] at q
/-- the tail of an add: laid, and laid anew where it is too full -/
theorem setX_tail {g : Bool → Sem Unit} (hg : ∀ (b : Bool) (s1 : Shared) (Q' : Unit → Shared → Prop), Q' () s1 → wpAny (model P w) A (g b) Q' E s1)
    {o : Obj} {es : Array (Int × Value)} {ep : Nat} {t : SetTable} (ho : s.heap.get? a = some o) (hex : o.ExactSet) (hd : o.data = .set es ep t)
    {f1 : Array (Int × Value)} {t2 : SetTable} {ks' : List Key} (g1 : ∀ e ∈ f1.toList, GdE w e) (nd1 : ks'.Nodup) (p1 : (f1.toList.map kvE).Perm ks')
    (hb1 : f1.size < scanBound) (hf2 : t2.fits f1.size = true) (hr : Ris t2.place.toList) (hl : w.params.followText "set-order" = true ∨ t2.led = true) {dummy : Bool} {R : Option Bool → Shared → Prop}
    (hR : ∀ h', Heap.SameBut a s.heap h' → SetX w h' a ks' → R (some true) { s with heap := h' }) :
    wpAny (model P w) A (do
        storeSet a f1 t2
        if (!dummy && t2.tooFull) = true then do
            g (relayAll t2 f1 (SetTable.grown f1.size)).2.2
            storeSet a (relayAll t2 f1 (SetTable.grown f1.size)).1 (relayAll t2 f1 (SetTable.grown f1.size)).2.1
            pure (some true)
          else pure (some true)) R E s := by
  refine wpAny_bind (wpAny_storeSet_of ho hd ?_ (fits_of_scanBound hb1))
  have k1 := putX_at (es' := f1) (t' := t2) ho hd
  have b1 := Heap.SameBut.update s.heap a (Obj.putSet f1 t2)
  split
  · have pm := relayAll_perm t2 f1 (SetTable.grown f1.size)
    have q3 := relayAll_fits t2 f1 (SetTable.grown f1.size)
    have q4 := relayAll_ris t2 f1 (SetTable.grown f1.size)
    have q5 := relayAll_led t2 f1 (SetTable.grown f1.size)
    generalize relayAll t2 f1 (SetTable.grown f1.size) = Z at pm q3 q4 q5 ⊢
    obtain ⟨f2, t3, gv⟩ := Z
    dsimp only at pm q3 q4 q5 ⊢
    have hsz : f2.size = f1.size := by rw [← Array.length_toList, pm.length_eq, Array.length_toList]
    have hb2 : f2.size < scanBound := hsz ▸ hb1
    refine wpAny_bind (hg _ _ _ ?_)
    refine wpAny_bind (wpAny_storeSet_of k1 rfl ?_ (fits_of_scanBound hb2))
    have k2 := putX_at (es' := f2) (t' := t3) k1 rfl
    refine wpAny_pure (hR _ (b1.trans (Heap.SameBut.update _ a _)) ?_)
    exact ⟨_, f2, _, t3, k2, hex, rfl, fun e he => g1 e (pm.mem_iff.mp he), nd1, (pm.map kvE).trans p1, hb2, q3, q4, hl.imp id fun z => q5.trans z⟩
  · exact wpAny_pure (hR _ b1 ⟨_, f1, _, t2, k1, hex, rfl, g1, nd1, p1, hb1, hf2, hr, hl⟩)
theorem setX_add {k : Key} {v : Value} (hkey : keyIs k v = true) {Q : Bool → Shared → Prop} (R : SetX w s.heap a ks) (room : ks.length + 1 < scanBound)
    (hQ : ∀ (b : Bool) h', Heap.SameBut a s.heap h' → SetX w h' a (dd1 ks k) → Q b { s with heap := h' }) :
    wpAny (model P w) A (setAddHashed a v ((mixKind P w).hash k)) Q E s := by
  obtain ⟨o, es, ep, t, ho, hex, hd, g, nd, pk0, hb, hf, hr, hl⟩ := R
  have hsc := scan_of hkey
  have hel : ElemsOf (mixKind P w) es.toList := gd_elems g
  have hkey' : (mixKind P w).is k v = true := hkey
  unfold setAddHashed setAddHashedIn
  refine wpAny_holding (wpAny_bind (wpAny_setState_of ho hd hf ?_))
  dsimp only
  rw [byScan_of hsc hb hel]
  simp only [↓reduceIte]
  unfold setAddByScan
  refine wpAny_bind ?_
  refine wpAny_bind (wpAny_rule ?_)
  refine wpAny_bind (wpAny_setScan_of hkey' ho hd hf hel ?_)
  cases hfi : List.findIdx? (fun e => (mixKind P w).is k e.2) es.toList with
  | some j =>
    dsimp only
    obtain ⟨hj, pj, _⟩ := List.findIdx?_eq_some_iff_getElem.mp hfi
    have hin : k ∈ ks := pk0.mem_iff.mp ((gd_mem (P := P) (w := w) g k).2 ⟨es.toList[j], List.getElem_mem hj, pj⟩)
    have ed : dd1 ks k = ks := by unfold dd1; rw [if_pos ((mK_iff ks k).2 hin)]
    refine wpAny_pure (wpAny_pure ?_)
    exact hQ _ s.heap (Heap.SameBut.refl a s.heap) (by rw [ed]; exact ⟨o, es, ep, t, ho, hex, hd, g, nd, pk0, hb, hf, hr, hl⟩)
  | none =>
    dsimp only
    have hnk0 : k ∉ es.toList.map kvE := fun z => by
      obtain ⟨e, he, q⟩ := (gd_mem (P := P) (w := w) g k).1 z
      have c := List.findIdx?_eq_none_iff.mp hfi e he
      rw [q] at c
      cases c
    have hnk : k ∉ ks := fun z => hnk0 (pk0.mem_iff.mpr z)
    have ed : dd1 ks k = ks ++ [k] := by
      unfold dd1
      rw [if_neg fun z => hnk ((mK_iff ks k).1 z)]
    have hgw : ∀ (b : Bool) {s1 : Shared} {Q' : Unit → Shared → Prop}, Q' () s1 → wpAny (model P w) A (match b with | true => rule "set.scan.the-table-gave-way" | false => pure ()) Q' E s1 :=
      fun b s1 Q' q => by cases b <;> first | exact wpAny_pure q | exact wpAny_rule q
    have pm := layNew_perm t es ((mixKind P w).hash k) v
    have q1 := layNew_fits t es ((mixKind P w).hash k) v
    have q2 := layNew_ris t es ((mixKind P w).hash k) v hr
    have q3 := layNew_led t es ((mixKind P w).hash k) v
    generalize layNew t es ((mixKind P w).hash k) v = Z at pm q1 q2 q3 ⊢
    obtain ⟨f1, t1, dummy, gv⟩ := Z
    dsimp only at pm q1 q2 q3 ⊢
    rw [Array.toList_push] at pm
    have pc : f1.toList.Perm (((mixKind P w).hash k, v) :: es.toList) := pm.trans (List.perm_append_singleton _ _)
    have pk : (f1.toList.map kvE).Perm (dd1 ks k) := by
      have z := pc.map kvE
      rw [List.map_cons, show kvE ((mixKind P w).hash k, v) = k from kvV_self hkey] at z
      rw [ed]
      exact z.trans ((pk0.cons k).trans (List.perm_append_singleton _ _).symm)
    have g1 : ∀ e ∈ f1.toList, GdE w e := fun e he => by
      rcases List.mem_cons.mp (pc.mem_iff.mp he) with z | z
      · rw [z]; exact ⟨k, hkey, rfl⟩
      · exact g e z
    have nd1 : (dd1 ks k).Nodup := by
      rw [ed]
      exact (List.perm_append_singleton k ks).nodup_iff.mpr (List.nodup_cons.mpr ⟨hnk, nd⟩)
    have hsz : f1.size = ks.length + 1 := by
      have z1 := pc.length_eq
      have z2 := pk0.length_eq
      rw [List.length_map] at z2
      rw [List.length_cons, z2, Array.length_toList] at z1
      exact z1
    have hb1 : f1.size < scanBound := by rw [hsz]; exact room
    have hled : w.params.followText "set-order" = true ∨ t1.led = true := hl.imp id fun z => q3.trans z
    refine wpAny_bind (hgw _ ?_)
    split
    · refine wpAny_bind ?_
      rw [hashByValue_scannable 8 hsc]
      refine wpAny_pure ?_
      refine setX_tail ?_ ho hex hd g1 nd1 pk hb1 ?_ ?_ ?_ ?_
      · intro b s1 Q' q; cases b <;> first | exact wpAny_pure q | exact wpAny_rule q
      · first | (split <;> first | exact q1 | exact SetTable.fits_plain_off q1) | exact q1
      · first | (split <;> exact q2) | exact q2
      · first | (split <;> exact hled) | exact hled
      · intro h' sb r; dsimp only; exact wpAny_pure (hQ _ h' sb r)
    · refine wpAny_bind (wpAny_pure ?_)
      simp only [↓reduceIte]
      refine setX_tail ?_ ho hex hd g1 nd1 pk hb1 q1 q2 hled ?_
      · intro b s1 Q' q; cases b <;> first | exact wpAny_pure q | exact wpAny_rule q
      · intro h' sb r; dsimp only; exact wpAny_pure (hQ _ h' sb r)
end
/-! ### set(xs) -/
section
variable {prog : Program} {w : World}
variable {A : Around} {R : Result → Shared → Prop} {I : Addr} {fp wr : List Addr} {G : Array GenState → Array GenState → Prop} {P : Nat → Value → Prop} {St : Nat → Shared → Prop}
theorem setLoopX {n : Nat} (ks : List Key) (W : WalksS prog w A.in1 I fp wr G n P St) (hn : ks.length = n) (D : Addr) (hD : D ∉ fp)
    (hval : ∀ j v k, P j v → ks[j]? = some k → keyIs k v = true) (hb : ks.length + 1 < scanBound) (m : Nat) :
    ∀ (j : Nat) (s1 : Shared), ks.length - j = m → j ≤ ks.length → St j s1 →
      SetX w s1.heap D (fmK (ks.take j)) →
      (∀ s2, Moved (D :: wr) G s1 s2 → SetX w s2.heap D (fmK ks) → R (.ok (.ret .none)) s2) →
      codeAny (model prog w) A (.builtin "set.update.loop" ⟨[.ref D, .ref I], []⟩) R s1 := by
  subst hn
  have nD : D ∉ wr := fun z => hD (W.sub _ z)
  have up : ∀ b ∈ wr, b ∈ D :: wr := fun b hb => List.mem_cons_of_mem _ hb
  induction m with
  | zero =>
    intro j s1 hk hj hst hS hR
    obtain rfl : j = ks.length := by omega
    rw [List.take_length] at hS
    refine codeAny_builtin PyProof.Rows.F.entry_set_update_loop ?_
    rw [Around.under_plainId PyProof.Rows.F.plain_set_update_loop _]
    show wpAny _ A.in1 (pyNext (.ref I) >>= _) _ _ s1
    refine wpAny_bind (W.done s1 _ _ hst fun s2 hm => ?_)
    show wpAny _ A.in1 (PySem.ret Value.none) _ _ s2
    exact wpAny_pure (hR s2 (hm.mono up) (hS.at fun o ho => hm.heap D o nD ho))
  | succ m ih =>
    intro j s1 hk hj hst hS hR
    have lt : j < ks.length := by omega
    have ek : ks[j]? = some ks[j] := by simp [lt]
    have et : ks.take (j + 1) = ks.take j ++ [ks[j]] := by rw [List.take_succ, ek]; rfl
    refine codeAny_builtin PyProof.Rows.F.entry_set_update_loop ?_
    rw [Around.under_plainId PyProof.Rows.F.plain_set_update_loop _]
    show wpAny _ A.in1 (pyNext (.ref I) >>= _) _ _ s1
    refine wpAny_bind (W.item j s1 _ _ lt hst fun v s2 hP hst2 hm => ?_)
    have hv := hval j v _ hP ek
    have hS2 : SetX w s2.heap D (fmK (ks.take j)) := hS.at fun o ho => hm.heap D o nD ho
    show wpAny _ A.in1 (holding [v] (setAdd D v) >>= _) _ _ s2
    refine wpAny_bind (wpAny_holding ?_)
    unfold setAdd
    refine wpAny_holding ?_
    refine wpAny_bind ((mixKind prog w).pyHash (k := ks[j]) hv ?_)
    have room : (fmK (ks.take j)).length + 1 < scanBound := by
      have := fmK_le (ks.take j)
      rw [List.length_take] at this
      omega
    refine setX_add (s := { s2 with toks := s2.toks + 1 }) hv hS2 room fun b h3 hsb hS3 => ?_
    have hS4 : SetX w h3 D (fmK (ks.take (j + 1))) := by
      rw [et, fmK_snoc]
      exact hS3
    refine wpAny_pure ⟨plainId_quiet PyProof.Rows.F.plain_set_update_loop _, ih (j + 1) _ (by omega) lt (W.frame _ s2 _ _ hst2 (Nat.le_succ _) fun b hb o e => ?_) hS4 fun s5 hm5 hS5 => ?_⟩
    · rw [hsb.2 b (fun z : b = D => hD (by rw [← z]; exact hb))]; exact e
    · refine hR s5 (Moved.trans W.gtrans ((hm.mono up).then_heap (Nat.le_succ _) fun b o hb e => ?_) hm5) hS5
      rw [hsb.2 b (fun z : b = D => hb (by rw [z]; exact List.mem_cons_self))]; exact e
end
section
variable {P : Program} {w : World} {A : Around} {E : Value → Shared → Prop} {s0 : Shared}
abbrev freshSet (led : Bool) : Obj := { cls := .type "set", dict := none, data := .set #[] 0 (.fresh 0 0 led) }
theorem led_or (w : World) : w.params.followText "set-order" = true ∨ (!w.params.followText "set-order") = true := by
  cases w.params.followText "set-order"
  · exact .inr rfl
  · exact .inl rfl
/-- set(xs), xs a list or a tuple -/
theorem setCallX (tup : Bool) {l : Addr} {items : Array Value} {ks : List Key} {Q : Value → Shared → Prop}
    (hh : A.handled = none) (hl : if tup = true then s0.heap.IsTuple l items else s0.heap.IsList l items) (hk : ks.length = items.size) (hi : ∀ (j : Nat) (v : Value) (k : Key), items[j]? = some v → ks[j]? = some k → keyIs k v = true) (hb : ks.length + 1 < scanBound)
    (h : ∀ (g : Heap) (tk : Nat), SetX w g s0.heap.objs.size (fmK ks) →
      (∀ b o, b < s0.heap.objs.size → s0.heap.get? b = some o → g.get? b = some o) → Q (.ref s0.heap.objs.size) { s0 with heap := g, toks := tk }) :
    wpAny (model P w) A (call (.type "set") [.ref l]) Q E s0 := by
  obtain ⟨c, tl, q1⟩ := PySem.F.called_set.mro
  have q2 := PySem.F.called_set.made
  have q3 := PySem.F.called_set.sub
  refine wpAny_call (codeAny_of_tree ?_)
  show wpAny _ _ (callAny (.type "set") _) _ _ _
  refine wpAny_pure ⟨Code.quiet_builtin _ (by decide +kernel), codeAny_builtin PySem.F.entry_type_call ?_⟩
  rw [Around.under_plain (weight_type_call_type "set" [.ref l] []) rfl]
  have q4 := PySem.F.called_set.notType
  have q5 := PySem.F.called_set.canCreate
  have q6 := PySem.F.typeCall_set_1 (.ref l)
  repeat (any_goals (first | assumption | wp_step))
  generalize hD : s0.heap.objs.size = D at *
  refine codeAny_mono (code_set_led1 (w := w) (.ref l) (E := E) (Q₁ := fun u s1 => ∃ led : Bool, (w.params.followText "set-order" = true ∨ led = true) ∧ u = .ref D ∧ s1 = { s0 with heap := s0.heap.push (freshSet led) }) ⟨_, led_or w, by rw [hD], rfl⟩) fun r s1 hr => ?_
  cases r with
  | error e => exact hr
  | ok fl =>
    cases fl with
    | ret u =>
      obtain ⟨led, hled, rfl, rfl⟩ := hr
      have gS : (s0.heap.push (freshSet led)).get? D = some (freshSet led) := by rw [← hD]; exact Heap.get?_push_size _ rfl
      have hT : Shared.TypeIs { s0 with heap := s0.heap.push (freshSet led) } (.ref D) "set" := ⟨_, gS, rfl⟩
      have q7 := PySem.F.called_set.init.lookup
      have q8 := PySem.F.called_set.init.bind (.ref D)
      repeat (any_goals (first | assumption | wp_step))
      refine codeAny_mono (codeAny_call_builtin (R := wants (fun r s2 => r = .none ∧ ∃ g tk, s2 = { s0 with heap := g, toks := tk } ∧ SetX w g D (fmK ks) ∧
          (∀ b o, b < D → s0.heap.get? b = some o → g.get? b = some o)) E) PySem.F.called_set.init.plain PySem.F.entry_set_init (check_set_init_1 hT ?_)) fun r2 s2 hr2 => ?_
      · have h3 : A.in1.in1.in1.handled = none := by simp [hh]
        have zero : ∀ o : Obj, SetX w ((s0.heap.push (freshSet led)).push o) D (fmK (ks.take 0)) := fun o =>
          ⟨_, #[], 0, _, Heap.get?_push_of_some _ gS, ⟨rfl, rfl, rfl⟩, rfl, (fun e he => by simp at he), (by simp [fmK]), (by simp [fmK]), (by decide), (by rfl), List.Pairwise.nil, hled⟩
        have fin : ∀ (o : Obj) (lp : Nat) (s3 : Shared), lp = (s0.heap.push (freshSet led)).objs.size → Moved [D, lp] (fun g g' => g' = g) { s0 with heap := (s0.heap.push (freshSet led)).push o } s3 → SetX w s3.heap D (fmK ks) →
            (∃ g tk, s3 = { s0 with heap := g, toks := tk } ∧ SetX w g D (fmK ks) ∧ (∀ b o, b < D → s0.heap.get? b = some o → g.get? b = some o)) := fun o lp s3 ew hm hS => by
          obtain ⟨g, gn, dr, tk, os⟩ := s3
          have e1 : gn = s0.gens := hm.gens
          have e2 : dr = s0.drawn := hm.drawn
          have e3 : os = s0.os := hm.os
          subst e1; subst e2; subst e3
          refine ⟨g, tk, rfl, hS, fun b u hb e => hm.heap b u ?_ (Heap.get?_push_of_some _ (Heap.get?_push_of_some _ e))⟩
          rw [Heap.size_push, hD] at ew
          simp only [List.mem_cons, List.not_mem_nil, or_false, not_or]
          refine ⟨Nat.ne_of_lt hb, ?_⟩
          rw [ew]
          exact Nat.ne_of_lt (Nat.lt_succ_of_lt hb)
        have lD : ∀ (o : Obj), s0.heap.get? l = some o → l < D := fun o e => by rw [← hD]; exact Heap.lt_size e
        have out : ∀ (I : Addr), I = (s0.heap.push (freshSet led)).objs.size → l < D → l ≠ I ∧ D ∉ [I, l] := fun I e z => by
          rw [Heap.size_push, hD] at e
          simp only [List.mem_cons, List.not_mem_nil, or_false, not_or]
          subst e
          exact ⟨Nat.ne_of_lt (Nat.lt_succ_of_lt z), Nat.ne_of_lt (Nat.lt_succ_self _), Nat.ne_of_gt z⟩
        cases tup with
        | false =>
          have hl' : s0.heap.IsList l items := hl
          obtain ⟨⟨oc, od, oda, osl⟩, g1, g2, nl, g3⟩ := hl'
          simp only at g2 g3
          subst g2; subst g3
          have g4 : (s0.heap.push (freshSet led)).get? l = some { cls := .type "list", dict := od, data := .seq items nl, slots := osl } := Heap.get?_push_of_some _ g1
          have q9 := PySem.F.sub_list_set
          have q10 := PySem.F.sub_list_frozenset
          have q11 : (Value.type "list" == Value.type "dict") = false := by decide
          have l1 : (s0.heap.push (freshSet led)).IsList l items := ⟨_, g4, rfl, nl, rfl⟩
          obtain ⟨n1, n2⟩ := out _ rfl (lD _ g1)
          unfold Builtin.«set.__init__» noKeywords Builtin.Frozenset.updateFrom
          generalize hPI : pyIter = PI
          wp_walk
          subst hPI
          refine wpAny_pyIter_list l1 ?_
          refine wpAny_bind (wpAny_runValue ?_)
          refine setLoopX (P := fun j v => items[j]? = some v) ks (Walks.list h3 _ l n1 items).toS hk D n2 (fun j v k a b => hi j v k a b) hb (ks.length - 0) 0 _ rfl (Nat.zero_le _)
            ⟨⟨_, Heap.get?_push_size _ rfl, rfl, rfl⟩, l1.push _⟩ (zero _) fun s3 hm hS => ?_
          show wpAny _ _ _ _ _ _
          refine wpAny_pure ?_
          show wpAny _ _ (PySem.ret Value.none) _ _ _
          exact wpAny_pure ⟨rfl, fin _ _ _ rfl hm hS⟩
        | true =>
          have hl' : s0.heap.IsTuple l items := hl
          obtain ⟨⟨oc, od, oda, osl⟩, g1, g2, nl, g3⟩ := hl'
          simp only at g2 g3
          subst g2; subst g3
          have g4 : (s0.heap.push (freshSet led)).get? l = some { cls := .type "tuple", dict := od, data := .seq items nl, slots := osl } := Heap.get?_push_of_some _ g1
          have q9 := PySem.F.sub_tuple_set
          have q10 := PySem.F.sub_tuple_frozenset
          have q11 : (Value.type "tuple" == Value.type "dict") = false := by decide
          have l1 : (s0.heap.push (freshSet led)).IsTuple l items := ⟨_, g4, rfl, nl, rfl⟩
          obtain ⟨n1, n2⟩ := out _ rfl (lD _ g1)
          unfold Builtin.«set.__init__» noKeywords Builtin.Frozenset.updateFrom
          generalize hPI : pyIter = PI
          wp_walk
          subst hPI
          refine wpAny_pyIter_tuple l1 ?_
          refine wpAny_bind (wpAny_runValue ?_)
          refine setLoopX (P := fun j v => items[j]? = some v) ks (Walks.tuple h3 _ l n1 items).toS hk D n2 (fun j v k a b => hi j v k a b) hb (ks.length - 0) 0 _ rfl (Nat.zero_le _)
            ⟨⟨_, Heap.get?_push_size _ rfl, rfl, rfl⟩, l1.push _⟩ (zero _) fun s3 hm hS => ?_
          show wpAny _ _ _ _ _ _
          refine wpAny_pure ?_
          show wpAny _ _ (PySem.ret Value.none) _ _ _
          exact wpAny_pure ⟨rfl, fin _ _ _ rfl hm hS⟩
      · cases r2 with
        | error e => exact hr2
        | ok fl2 =>
          cases fl2 with
          | ret r =>
            obtain ⟨rfl, g, tk, rfl, hS, hk2⟩ := hr2
            repeat (any_goals (first | assumption | wp_step))
            exact h _ _ hS hk2
          | _ => exact hr2.elim
    | _ => exact hr.elim
end
section
variable {X : Cx} {W : WX} {a : Expr} {f : List S → M S}
def tLnS (K : PySem.W.Frag) (ta : TE) : TE := fun σ H Q => ta σ H fun x H1 => ∃ (b : Bool) (l : Addr) (vs : List V) (ks : List Key), x = V.ref l ∧ (if b = true then SqT K H1 l vs else SqL K H1 l vs) ∧ vs = ks.map kV ∧ ks.length + 1 < scanBound ∧ Q (.int (fmK ks).length) H1
theorem vals_keys {P : Program} {w : World} : ∀ {ks : List Key} {us : List Value}, Vals (ks.map kV) us → ∀ (j : Nat) (v : Value) (k : Key), us[j]? = some v → ks[j]? = some k → (mixKind P w).is k v = true
  | [], _, .nil, j, v, k, h, _ => by simp at h
  | k0 :: ks, _, .cons r t, 0, v, k, h, e => by
    simp at h e
    subst h; subst e
    cases k0 with
    | inl i =>
      obtain ⟨q, rfl⟩ := r
      simp [mixKind, keyIs, Value.isInt, Value.isStrOf]
    | inr x =>
      obtain ⟨q, rfl⟩ := r
      simp [mixKind, keyIs, Value.isInt, Value.isStrOf]
  | k0 :: ks, _, .cons r t, j + 1, v, k, h, e => vals_keys t j v k (by simpa using h) (by simpa using e)
theorem pe_lnS {ta : TE} {p p2 q pos : Pos} (hc : X.calm = true) (hg : Gl X "len") (hm : X.mg "len" = none) (hg2 : Gl X "set") (hm2 : X.mg "set" = none) (ha : PE X a ta)
    (na : starEach [a] X.env = (false, eval a X.env) :: starEach [] X.env) : PE X (.Call (.Name "len" p) [.Call (.Name "set" p2) [a] [] q] [] pos) (tLnS X.K ta) := by
  refine ⟨fun pins s σ H Q I h => ?_⟩
  refine PyProof.Rows.Call_ (ld_blt I hg hm PySem.boot_len ?_)
  refine PyProof.Rows.callWith_builtin1 (PyProof.Rows.args_cons ?_ rfl) rfl rfl
  refine PyProof.Rows.Call_ (ld_blt I hg2 hm2 PyProof.Rows.boot_set ?_)
  refine PyProof.Rows.callWith_type1 (PyProof.Rows.args_cons (thn (ha.run pins s σ H _ I h) fun v s1 ⟨x, H1, I1, r1, q1⟩ => PyProof.Rows.args_nil ?_) na) na rfl
  obtain ⟨b, l, vs, ks, rfl, hq, rfl, hlt, q1⟩ := q1
  cases r1
  have go : ∀ (its : List Value), Vals (ks.map kV) its → (if b = true then s1.heap.IsTuple l its.toArray else s1.heap.IsList l its.toArray) → wpAny (model X.prog X.w) X.A (call (.type "set") [Value.ref l]) (fun u s2 => wpAny (model X.prog X.w) X.A (spliced (backTo pos (starEach [] X.env))) (fun us s3 => wpAny (model X.prog X.w) X.A (call (.builtin "len") (u :: us)) (EP X pins σ Q) X.xe s3) X.xe s2) X.xe s1 := fun its r hit => by
    have hl : ks.length = its.toArray.size := by rw [List.size_toArray, ← r.length, List.length_map]
    refine setCallX b (I1.ok.hd hc) hit hl (fun j v k e1 e2 => vals_keys (P := X.prog) (w := X.w) r j v k (by simpa using e1) e2) hlt fun g tk hS hk => ?_
    refine PyProof.Rows.args_nil ?_
    obtain ⟨o, es, ep, t, ho, hex, hd, _, _, pk, _, hf, _, _⟩ := hS
    have hn : es.size = (fmK ks).length := by rw [← pk.length_eq, List.length_map, Array.length_toList]
    have I2 : Inv X pins σ H1 { s1 with heap := g, toks := tk } := I1.kept fun b o e => hk b o (Heap.lt_size e) e
    have lt := fmK_le ks
    have sb : scanBound = 4096 := rfl
    refine call_len_set ho hex hd hf (by rw [hn]; omega) ⟨.int (fmK ks).length, H1, I2.tok _, ⟨_, by rw [hn]⟩, q1⟩
  cases b with
  | false =>
    obtain ⟨its, r, pl, hz⟩ := I1.list hq
    exact go its r pl.isList
  | true =>
    obtain ⟨its, r, pl, hz⟩ := I1.tuple hq
    exact go its r pl
def lnSD : D → Option D
  | .list xs => match kysD xs with
    | some ks => if ks.length < 4000 then some (.int (fmK ks).length) else none
    | none => none
  | .tuple xs => match kysD xs with
    | some ks => if ks.length < 4000 then some (.int (fmK ks).length) else none
    | none => none
  | _ => none
def lenSetG : List D → Option D
  | [d] => lnSD d
  | _ => none
theorem kys_vs {Hf : Hp} : ∀ {vs : List V} {xs : List D} {ks : List Key}, Dds Hf vs xs → kysD xs = some ks → vs = ks.map kV
  | _, _, ks, .nil, e => by
    have : [] = ks := Option.some.inj e
    subst this; rfl
  | _, _, ks, .cons (d := d) (ds := ds) h t, e => by
    unfold kysD at e
    split at e
    · rename_i k ks' e1 e2
      cases e
      have ih := kys_vs t e2
      subst ih
      cases d with
      | int i => cases h; cases e1; rfl
      | str x => cases h; cases e1; rfl
      | _ => cases e1
    · cases e
theorem de_lenSet {p p2 q pos : Pos} (hm : X.mg "len" = none) (hm2 : X.mg "set" = none) (ha : DE X W a f) (hc : X.calm = true := by rfl) (hg : Gl X "len" := by rfl) (hg2 : Gl X "set" := by rfl)
    (na : starEach [a] X.env = (false, eval a X.env) :: starEach [] X.env := by rfl) : DE X W (.Call (.Name "len" p) [.Call (.Name "set" p2) [a] [] q] [] pos) (eCd lenSetG (aCons f aNil)) := by
  obtain ⟨t, pr, k⟩ := ha
  refine ⟨_, pe_lnS hc hg hm hg2 hm2 pr na, fun B ca ρ cs Hf σ H Q r h => ?_⟩
  refine k B ca ρ cs Hf σ H _ r (h.bind.bind.mono fun ca1 Hf1 H1 cs1 s n1 r1 h1 v hv => ?_)
  have h2 : Gs X W B ca1 Hf1 ρ σ (bnd (vwsM [s]) (fun ds => bnd (ofO (lenSetG ds)) fun d => ret (.d d)) cs1) (fun ca' Hf' H' _ s => ∀ v, SvOk ca' Hf' s v → Q v H') := (h1.ret_ r1)
  obtain ⟨ds, e1, h3⟩ := vwsM_ h2
  obtain ⟨d, e2, h4⟩ := ofOb_ h3
  have lv := vws_ok r1 (SvsOk.cons hv .nil) e1
  match ds, e2, lv with
  | [x], e2, lv =>
    have fin := h4.ret_ r1
    have sb : scanBound = 4096 := rfl
    cases x with
    | list xs =>
      obtain ⟨l, vs, rfl, q1, q2⟩ := lv.1.lst
      have e2' : (match kysD xs with
        | some ks => if ks.length < 4000 then some (PyData.int (fmK ks).length) else none
        | none => none) = some d := e2
      cases ek : kysD xs with
      | none => rw [ek] at e2'; cases e2'
      | some ks =>
        rw [ek] at e2'
        simp only at e2'
        split at e2'
        · cases e2'
          exact ⟨false, l, vs, ks, rfl, .inl q1, kys_vs q2 ek, by omega, fin _ (.int _)⟩
        · cases e2'
    | tuple xs =>
      obtain ⟨l, vs, rfl, q1, q2⟩ := lv.1.tup
      have e2' : (match kysD xs with
        | some ks => if ks.length < 4000 then some (PyData.int (fmK ks).length) else none
        | none => none) = some d := e2
      cases ek : kysD xs with
      | none => rw [ek] at e2'; cases e2'
      | some ks =>
        rw [ek] at e2'
        simp only at e2'
        split at e2'
        · cases e2'
          exact ⟨true, l, vs, ks, rfl, .inl q1, kys_vs q2 ek, by omega, fin _ (.int _)⟩
        · cases e2'
    | _ => cases e2
  | [], e2, lv => cases e2
  | _ :: _ :: _, e2, lv => cases e2
end
/-! walks over texts -/
def chD (c : Nat) : D := .str ⟨#[c]⟩
def iStrM (f : List S → M S) (ρ : List S) : M (List D) := bnd (f ρ) fun s => match s with
  | .d (.str x) => ret (x.cps.toList.map chD)
  | _ => stuck
section
variable {X : Cx} {W : WX} {a tg : Expr} {fa : List S → M S}
theorem di_str (ha : DE X W a fa) : DI X W tg a (iStrM fa) := by
  obtain ⟨t, p, k⟩ := ha
  refine ⟨_, pi_str p, fun B ca ρ cs Hf σ H R r h => ?_⟩
  refine k B ca ρ cs Hf σ H _ r (h.bind.mono fun ca1 Hf1 H1 cs1 s n1 r1 h1 v hv => ?_)
  cases s with
  | d x =>
    cases x with
    | str x =>
      have hv' : Dd Hf1 v (.str x) := hv
      cases hv'
      refine ⟨x, rfl, ?_⟩
      refine (h1.ret_ r1) _ fun B2 ca2 ρ2 cs2 Hf2 σ2 H2 i n2 r2 hi => ⟨fun e => ?_, fun hi' => ?_⟩
      · subst e
        simp [Its]
      · rw [List.length_map, Array.length_toList] at hi'
        refine ⟨hi', fun y H3 q => ?_⟩
        obtain ⟨rfl, c, e1, rfl⟩ := q
        refine ⟨Hf2, Nx.refl, r2, chD c, ?_, .str _⟩
        rw [List.getElem?_map, Array.getElem?_toList, e1]; rfl
    | _ => exact h1.elim
  | _ => exact h1.elim
end
/-! walks over lists, tuples and texts alike -/
section
variable {X : Cx} {tg : Expr}
def iAny (K : PySem.W.Frag) (te : TE) : TI := fun σ H R => te σ H fun v H1 => (∃ a, v = V.ref a ∧ (∃ xs, SqL K H1 a xs) ∧ R (Itl K a) H1) ∨ (∃ a, v = V.ref a ∧ (∃ xs, SqT K H1 a xs) ∧ R (Itt K a) H1) ∨ ∃ x, v = V.str x ∧ R (Its x) H1
theorem pi_any {e : Expr} {te : TE} (he : PE X e te) : PI X tg e (iAny X.K te) := by
  refine ⟨fun pins s σ H R I h => ?_⟩
  refine thn (he.run pins s σ H _ I h) fun v s1 ⟨y, H1, J1, r1, q⟩ => ?_
  rcases q with ⟨a, rfl, ⟨xs, hq⟩, q⟩ | ⟨a, rfl, ⟨xs, hq⟩, q⟩ | ⟨x, rfl, q⟩
  · cases r1
    obtain ⟨its, rv, p, hz⟩ := J1.list hq
    exact wpAny_pyIter_list p.isList (pi_one (tk := s1.toks) J1 _ (turn_list a _) ⟨_, Heap.get?_push_size _ rfl, rfl, rfl⟩ q)
  · cases r1
    obtain ⟨its, rv, p, hz⟩ := J1.tuple hq
    exact wpAny_pyIter_tuple (show s1.heap.IsTuple a its.toArray from p) (pi_one (tk := s1.toks) J1 _ (turn_tuple a _) ⟨_, Heap.get?_push_size _ rfl, rfl, rfl⟩ q)
  · obtain ⟨t, rfl⟩ := r1
    cases ha : x.cps.all (· < 128)
    · exact wpAny_pyIter_wide ha (pi_one (tk := s1.toks) J1 _ (turn_str _ x t "str_iterator" (.inr rfl)) ⟨_, Heap.get?_push_size _ rfl, rfl, rfl⟩ q)
    · exact wpAny_pyIter_ascii ha (pi_one (tk := s1.toks) J1 _ (turn_str _ x t "str_ascii_iterator" (.inl rfl)) ⟨_, Heap.get?_push_size _ rfl, rfl, rfl⟩ q)
def itD : D → Option (List D)
  | .list xs => some xs
  | .tuple xs => some xs
  | .str x => some (x.cps.toList.map chD)
  | _ => none
def iAnyM (f : List S → M S) (ρ : List S) : M (List D) := bnd (f ρ) fun s => match s with
  | .d x => ofO (itD x)
  | _ => stuck
variable {W : WX} {a : Expr} {fa : List S → M S}
theorem di_any (ha : DE X W a fa) : DI X W tg a (iAnyM fa) := by
  obtain ⟨t, p, k⟩ := ha
  refine ⟨_, pi_any p, fun B ca ρ cs Hf σ H R r h => ?_⟩
  refine k B ca ρ cs Hf σ H _ r (h.bind.mono fun ca1 Hf1 H1 cs1 s n1 r1 h1 v hv => ?_)
  cases s with
  | d x =>
    cases x with
    | list xs =>
      have hv' : Dd Hf1 v (.list xs) := hv
      cases hv' with
      | lst g1 g2 =>
        rename_i l vs
        refine .inl ⟨l, rfl, ⟨vs, .inl (rd_ex r1.ext g1)⟩, ?_⟩
        have h2 : Gs X W B ca1 Hf1 ρ σ (ret xs cs1) _ := h1
        refine (h2.ret_ r1) _ fun B2 ca2 ρ2 cs2 Hf2 σ2 H2 i n2 r2 hi => ?_
        have g3 := rd_ex (fun a o h => r2.ext a o (n2.ex a o h)) g1
        refine ⟨fun e => ⟨vs, .inl g3, by rw [dps_len g2]; omega⟩, fun hi' => ?_⟩
        have hx : xs[i]? = some xs[i] := by simp [hi']
        obtain ⟨w, e1, e2⟩ := dps_get g2 hx
        refine ⟨⟨vs, w, .inl g3, e1⟩, fun x H3 y => ?_⟩
        obtain ⟨rfl, y⟩ := y
        have y1 := y vs (.inl g3)
        rw [e1] at y1
        cases y1
        exact ⟨Hf2, Nx.refl, r2, xs[i], hx, dp_ex n2.ex e2⟩
    | tuple xs =>
      have hv' : Dd Hf1 v (.tuple xs) := hv
      cases hv' with
      | tup g1 g2 =>
        rename_i l vs
        refine .inr (.inl ⟨l, rfl, ⟨vs, .inl (rd_ex r1.ext g1)⟩, ?_⟩)
        have h2 : Gs X W B ca1 Hf1 ρ σ (ret xs cs1) _ := h1
        refine (h2.ret_ r1) _ fun B2 ca2 ρ2 cs2 Hf2 σ2 H2 i n2 r2 hi => ?_
        have g3 := rd_ex (fun a o h => r2.ext a o (n2.ex a o h)) g1
        refine ⟨fun e => ⟨vs, .inl g3, by rw [dps_len g2]; omega⟩, fun hi' => ?_⟩
        have hx : xs[i]? = some xs[i] := by simp [hi']
        obtain ⟨w, e1, e2⟩ := dps_get g2 hx
        refine ⟨⟨vs, w, .inl g3, e1⟩, fun x H3 y => ?_⟩
        obtain ⟨rfl, y⟩ := y
        have y1 := y vs (.inl g3)
        rw [e1] at y1
        cases y1
        exact ⟨Hf2, Nx.refl, r2, xs[i], hx, dp_ex n2.ex e2⟩
    | str x =>
      have hv' : Dd Hf1 v (.str x) := hv
      cases hv'
      refine .inr (.inr ⟨x, rfl, ?_⟩)
      have h2 : Gs X W B ca1 Hf1 ρ σ (ret (x.cps.toList.map chD) cs1) _ := h1
      refine (h2.ret_ r1) _ fun B2 ca2 ρ2 cs2 Hf2 σ2 H2 i n2 r2 hi => ⟨fun e => ?_, fun hi' => ?_⟩
      · subst e
        simp [Its]
      · rw [List.length_map, Array.length_toList] at hi'
        refine ⟨hi', fun y H3 q => ?_⟩
        obtain ⟨rfl, c, e1, rfl⟩ := q
        refine ⟨Hf2, Nx.refl, r2, chD c, ?_, .str _⟩
        rw [List.getElem?_map, Array.getElem?_toList, e1]; rfl
    | _ => exact h1.elim
  | _ => exact h1.elim
end
end Dn

set_option Elab.async false
set_option linter.all false
set_option maxRecDepth 100000
set_option maxHeartbeats 1000000
/-! Dn12: try .. except C as e. -/
namespace Dn
open PySem L2
/-- the slot of the exception's name is forgotten; an error of the suite is none -/
def clr (i : Nat) : Out → Out
  | .nx ρ cs => .nx (ρ.set i .no) cs
  | .bk ρ cs => .bk (ρ.set i .no) cs
  | .ct ρ cs => .ct (ρ.set i .no) cs
  | .rt r cs => .rt r cs
  | _ => .no
open Classical in
noncomputable def hAs (i : Nat) (h : Str → Addr → G) (c : Str) : G := fun ρ cs =>
  if ∀ a, clr i (h c a (ρ.set i (.fn a)) cs) = clr i (h c 0 (ρ.set i (.fn 0)) cs) then clr i (h c 0 (ρ.set i (.fn 0)) cs) else .no
noncomputable def sTry (i : Nat) (known sub : Str → Bool) (h : Str → Addr → G) (g : G) : G := fun ρ cs => match g ρ cs with
  | .er c ρ' cs' => if known c = true then (if sub c = true then hAs i h c ρ' cs' else .er c ρ' cs') else .no
  | o => o
section
variable {X : Cx} {W : WX}
theorem GO.wf {W W' : WX} {B : Hp} {ca : List Addr} {Hf : Hp} {En : Ends} {o : Out} (h : GO X W B ca Hf En o) (n : ∀ c ρ cs, o ≠ .er c ρ cs) : GO X W' B ca Hf En o := by
  cases o with
  | er c ρ cs => exact absurd rfl (n c ρ cs)
  | _ => exact h
theorem clr_ok {i : Nat} {B : Hp} {ca : List Addr} {Hf : Hp} {D : Ends} {o : Out} (h : GO X W B ca Hf D (clr i o)) : GO X Wf B ca Hf { nx := fun σ H => D.nx (σ.set i none) H, rt := D.rt, bk := fun σ H => D.bk (σ.set i none) H, ct := fun σ H => D.ct (σ.set i none) H } o := by
  cases o with
  | nx ρ cs => exact fun ca' Hf' σ' H' n r => h ca' Hf' _ H' n (r.lose i none)
  | bk ρ cs => exact fun ca' Hf' σ' H' n r => h ca' Hf' _ H' n (r.lose i none)
  | ct ρ cs => exact fun ca' Hf' σ' H' n r => h ca' Hf' _ H' n (r.lose i none)
  | rt v cs => exact h
  | er c ρ cs => exact h.elim
  | no => exact h.elim
def tbOf (X : Cx) (g : G) (W : WX) : TS := fun D σ H => ∃ (B : Hp) (ca : List Addr) (ρ : List S) (cs : Store) (Hf : Hp), Rel B ca ρ cs Hf σ H ∧ GO X W B ca Hf D (g ρ cs)
def tsOf (X : Cx) (known : Str → Bool) (h : Str → Addr → G) (a : Addr) (cls : Value) (d : Option Addr) : TS := fun D σ H => ∃ (B : Hp) (ca : List Addr) (ρ : List S) (cs : Store) (Hf : Hp) (c : Str), Rel B ca ρ cs Hf σ H ∧ X.mg c = some cls ∧ known c = true ∧ d = none ∧ GO X Wf B ca Hf D (h c a ρ cs)
theorem dst_try (i : Nat) {x n : Str} {C : Value} {known sub : Str → Bool} {body suite : List Stmt} {b₀ : Stmt} {np pos pos' : Pos} {g : G} {h : Str → Addr → G} (hN : X.N.Nodup) (tk : Takes X W) (hc : Names X x C)
    (hsub : ∀ c cls, known c = true → X.mg c = some cls → PySem.W.exmOne X.K cls C = some (sub c))
    (hb : ∀ (W : WX) (pn : List (Addr × Obj)) (xe : Value → Shared → Prop), Takes (X.tr pn xe) W → PassesOwn (model X.prog X.w) X.A X.env xe → DSs (X.tr pn xe) W body g)
    (hsu : ∀ (a : Addr) (oe : Obj) (cls : Value) (pn : List (Addr × Obj)) (c : Str), known c = true → X.mg c = some cls → Zc cls none oe → (∃ vs, oe.data = .fields vs) → DSs (X.suite a ((a, oe) :: pn)) Wf (b₀ :: suite) (h c a))
    (hi : X.N[i]? = some n := by rfl) (hln : X.env.kindOf n = some .local := by rfl) (hs : X.stack = X.env :: X.outer := by rfl) (hf : X.env.frame = some X.env.locals := by rfl) :
    DSt X W (.Try body [.ExceptHandler (some (.Name x np)) (some n) (b₀ :: suite) pos'] [] [] pos) (sTry i known sub h g) := by
  refine ⟨_, L2.ps_try_as (tb := tbOf X g) (ts := tsOf X known h) (Wout := W) hs hf hN hi hln hc tk (fun W' pn xe tk' po' => ?_) (fun a oe cls d pn hz hd => ?_), fun B ca ρ cs Hf σ H En r hg => ?_⟩
  · obtain ⟨t, p, k⟩ := hb W' pn xe tk' po'
    exact ⟨fun pins s σ H D I ⟨B, ca, ρ, cs, Hf, r, hh⟩ => p.run pins s σ H D I (k B ca ρ cs Hf σ H D r hh)⟩
  · refine ⟨fun pins s σ H D I ⟨B, ca, ρ, cs, Hf, c, r, e, kn, ed, hh⟩ => ?_⟩
    subst ed
    obtain ⟨t, p, k⟩ := hsu a oe cls pn c kn e hz hd
    exact p.run pins s σ H D I (k B ca ρ cs Hf σ H D r hh)
  · refine ⟨B, ca, ρ, cs, Hf, r, ?_⟩
    unfold sTry at hg
    cases eg : g ρ cs with
    | er c ρ' cs' =>
      rw [eg] at hg
      simp only at hg
      intro ca' Hf' σ' H' cls nx r' mg
      by_cases kn : known c = true
      · rw [if_pos kn] at hg
        refine ⟨sub c, hsub c cls kn mg, fun hb a ha => ?_, fun hb => ?_⟩
        · rw [if_pos hb] at hg
          unfold hAs at hg
          split at hg
          · rename_i al
            refine ⟨B, ca', ρ'.set i (.fn a), cs', Hf', c, r'.set (s := .fn a) i rfl, mg, kn, rfl, ?_⟩
            have q := GO.fwd hg nx
            rw [← al a] at q
            exact clr_ok q
          · exact hg.elim
        · rw [if_neg (by rw [hb]; simp)] at hg
          exact hg ca' Hf' σ' H' cls nx r' mg
      · rw [if_neg kn] at hg; exact hg.elim
    | nx ρ' cs' => rw [eg] at hg; exact hg
    | rt v cs' => rw [eg] at hg; exact hg
    | bk ρ' cs' => rw [eg] at hg; exact hg
    | ct ρ' cs' => rw [eg] at hg; exact hg
    | no => rw [eg] at hg; exact hg.elim
/-- isinstance(e, C), e the exception in hand -/
def eIsE (i : Nat) (a : Addr) (b : Bool) (ρ : List S) : M S := match ρ[i]? with
  | some (.fn a') => if a' = a then ret (.d (.bool b)) else stuck
  | _ => stuck
theorem isE_run {i : Nat} {a : Addr} {b : Bool} {B : Hp} {ca : List Addr} {Hf : Hp} {ρ : List S} {σ : L2.St} {cs : Store} {H : Hp} {P : List Addr → Hp → Hp → Store → S → Prop} (r : Rel B ca ρ cs Hf σ H) (h : Gs X W B ca Hf ρ σ (eIsE i a b ρ cs) P) : σ[i]? = some (some (.ref a)) ∧ P ca Hf H cs (.d (.bool b)) := by
  unfold eIsE at h
  cases e : ρ[i]? with
  | none => rw [e] at h; exact h.elim
  | some s =>
    rw [e] at h
    cases s with
    | fn a' =>
      have h' : Gs X W B ca Hf ρ σ ((if a' = a then ret (.d (.bool b)) else stuck) cs) P := h
      split at h'
      · rename_i q
        subst q
        obtain ⟨v, h1, h2⟩ := r.get e (by simp)
        have h2' : v = .ref a' := h2
        subst h2'
        exact ⟨h1, h'.ret_ r⟩
      · exact h'.elim
    | _ => exact h.elim
end
section
variable {X : Cx} {a D : Addr} {oe : Obj} {pn : List (Addr × Obj)}
theorem de_isE (i : Nat) {en x : Str} {p p1 p2 pos : Pos} {C : Addr} {b : Bool} (hE : ExcC X.K D) (hz : Zc (.ref D) none oe) (hf : ∃ vs, oe.data = .fields vs) (hk : PySem.W.kitOne X.K (.ref D) (.ref C) = some b) (hm : X.mg "isinstance" = none) (hC : X.mg x = some (.ref C)) (hi : X.N[i]? = some en := by rfl)
    (hv : Vis X.env.scope en := by first | exact Or.inl rfl | exact Or.inr (Or.inl rfl) | exact Or.inr (Or.inr rfl)) (hg : Gl X "isinstance" := by rfl) (hgC : Gl X x := by rfl) (hd : (en == ("__debug__" : Str)) = false := by decide) (hcd : (en == ("__classdict__" : Str)) = false := by decide) (hdC : (x == ("__debug__" : Str)) = false := by decide)
    (h1 : starEach [.Name en p1, .Name x p2] X.env = (false, eval (.Name en p1) X.env) :: starEach [.Name x p2] X.env := by rfl) (h2 : starEach [.Name x p2] X.env = (false, eval (.Name x p2) X.env) :: starEach [] X.env := by rfl) (h3 : (backTo pos (starEach [.Name x p2] X.env)).any (·.1) = false := by rfl) :
    DE (X.suite a ((a, oe) :: pn)) Wf (.Call (.Name "isinstance" p) [.Name en p1, .Name x p2] [] pos) (eIsE i a b) := by
  refine ⟨_, pe_callB (X := X.suite a ((a, oe) :: pn)) (call_isE hE hz hf) hg hm (by decide +kernel) (pa_cons (pe_var hi hv hd hcd) (pa_cons (pe_glob (v := .ref C) hgC hC rfl hdC) pa_nil h2) h1) (by decide) (by decide) h1 h3, fun B ca ρ cs Hf σ H Q r h => ?_⟩
  obtain ⟨e1, q⟩ := isE_run r h
  refine ⟨_, e1, ?_⟩
  exact ⟨.ref C, .ref C, b, rfl, fun u ru => ru, hk, q _ (.bl b)⟩
theorem de_isET (i : Nat) {en x : Str} {p p1 p2 pos : Pos} {T : String} {b : Bool} (hE : ExcC X.K D) (hz : Zc (.ref D) none oe) (hf : ∃ vs, oe.data = .fields vs) (hk : PySem.W.kitOne X.K (.ref D) (.type T) = some b) (hm : X.mg "isinstance" = none) (hC : X.mg x = none) (hbt : bootBuiltins x = some (.type T)) (hi : X.N[i]? = some en := by rfl)
    (hv : Vis X.env.scope en := by first | exact Or.inl rfl | exact Or.inr (Or.inl rfl) | exact Or.inr (Or.inr rfl)) (hg : Gl X "isinstance" := by rfl) (hgC : Gl X x := by rfl) (hd : (en == ("__debug__" : Str)) = false := by decide) (hcd : (en == ("__classdict__" : Str)) = false := by decide) (hn : x ≠ "__name__" := by decide) (hdC : (x == ("__debug__" : Str)) = false := by decide)
    (h1 : starEach [.Name en p1, .Name x p2] X.env = (false, eval (.Name en p1) X.env) :: starEach [.Name x p2] X.env := by rfl) (h2 : starEach [.Name x p2] X.env = (false, eval (.Name x p2) X.env) :: starEach [] X.env := by rfl) (h3 : (backTo pos (starEach [.Name x p2] X.env)).any (·.1) = false := by rfl) :
    DE (X.suite a ((a, oe) :: pn)) Wf (.Call (.Name "isinstance" p) [.Name en p1, .Name x p2] [] pos) (eIsE i a b) := by
  refine ⟨_, pe_callB (X := X.suite a ((a, oe) :: pn)) (call_isE hE hz hf) hg hm (by decide +kernel) (pa_cons (pe_var hi hv hd hcd) (pa_cons (pe_bltn (v := .ty T) hgC hC hbt rfl hn hdC) pa_nil h2) h1) (by decide) (by decide) h1 h3, fun B ca ρ cs Hf σ H Q r h => ?_⟩
  obtain ⟨e1, q⟩ := isE_run r h
  refine ⟨_, e1, ?_⟩
  exact ⟨.ty T, .type T, b, rfl, fun u ru => ru, hk, q _ (.bl b)⟩
end
/-! facts of exception classes, as the head is looked at -/
def excB (K : PySem.W.Frag) (x : Str) : Bool :=
  decide (PySem.W.findIn K (.ref (He.ga K x)) "__getattribute__" = some (some (.builtin "BaseException.__getattribute__"))) && (decide (PySem.W.findIn K (.ref (He.ga K x)) "__getattr__" = some none) &&
    (decide (PySem.W.subIn K (.ref (He.ga K x)) (.type "BaseException") = some true) && (PySem.W.hasDictIn K (He.ga K x) && (decide (PySem.W.findIn K (.ref (He.ga K x)) "__class__" = some (some (.builtin "object.__class__"))) &&
      (decide (PySem.W.specialIn K (.builtin "object.__class__") "__get__" = some (some (.builtin "getset_descriptor.__get__"))) && (decide (PySem.W.takesIn K (.builtin "object.__class__") = some true) && decide (PySem.W.mroIn K (He.ga K x) (.type "object") = some true)))))))
theorem excB_ok {K : PySem.W.Frag} {x : Str} (h : excB K x = true) : ExcC K (He.ga K x) := by
  unfold excB at h
  simp only [Bool.and_eq_true, decide_eq_true_eq] at h
  obtain ⟨h1, h2, h3, h4, h5, h6, h7, h8⟩ := h
  exact ⟨h1, h2, h3, h4, h5, h6, h7, h8⟩
def kitB (K : PySem.W.Frag) (x y : Str) (b : Bool) : Bool := decide (PySem.W.kitOne K (.ref (He.ga K x)) (.ref (He.ga K y)) = some b)
def kitTB (K : PySem.W.Frag) (x : Str) (T : String) (b : Bool) : Bool := decide (PySem.W.kitOne K (.ref (He.ga K x)) (.type T) = some b)
theorem kitB_ok {K : PySem.W.Frag} {x y : Str} {b : Bool} (h : kitB K x y b = true) : PySem.W.kitOne K (.ref (He.ga K x)) (.ref (He.ga K y)) = some b := of_decide_eq_true h
theorem kitTB_ok {K : PySem.W.Frag} {x : Str} {T : String} {b : Bool} (h : kitTB K x T b = true) : PySem.W.kitOne K (.ref (He.ga K x)) (.type T) = some b := of_decide_eq_true h
def strG : List D → Option D
  | [.int i] => if i.natAbs.log2 < 1920 then some (.str (toString i)) else none
  | [.str x] => some (.str x)
  | _ => none
theorem str_ok {X : Cx} : CallR X (.type "str") (rCd strG) := by
  intro pins s σ H xs us Q I r h
  obtain ⟨Hf, ds, d, e, ex, hl, q⟩ := h
  unfold strG at e
  split at e
  · split at e
    · rename_i hz
      cases e
      obtain ⟨v, rfl, h1⟩ := lvs_one hl
      have := h1.int_; subst this
      exact call_str_int pins s σ H _ us Q I r ⟨_, rfl, hz, q _ _ _ (Gw.refl ex) (.str _)⟩
    · cases e
  · cases e
    obtain ⟨v, rfl, h1⟩ := lvs_one hl
    have := h1.str_; subst this
    exact SkE.call_str_str pins s σ H _ us Q I r ⟨_, rfl, q _ _ _ (Gw.refl ex) (.str _)⟩
  · cases e
theorem bt_ValueError : bootBuiltins "ValueError" = some (.type "ValueError") := by decide +kernel
end Dn

set_option Elab.async false
set_option linter.all false
set_option maxRecDepth 100000
set_option maxHeartbeats 4000000
/-! Dn13: lists and tuples times an int. -/
namespace Dn
open PySem L2
open AutoSeq1 (wpAny_loadPart')
theorem tupSame (l : Addr) (items : Array Value) (n : Nat) (dd : Option Addr) (sl : Array (Option Value)) (x : Int) (u : Tok) (c0 : (decide (x < -(2 ^ 63)) || decide (x ≥ 2 ^ 63)) = false) (c1 : (items.isEmpty || x == 1) = true) :
    Meets (Builtin.«tuple.__mul__» ⟨[.ref l, .int x u], []⟩) (fun _ R s => s.heap.get? l = some { cls := .type "tuple", dict := dd, data := .seq items n, slots := sl } ∧ R (.ok (.ret (Value.ref l))) s) :=
  .of_wp fun prog w A R s h => by
    obtain ⟨hp, g, d, tk, os⟩ := s
    obtain ⟨hl, h⟩ := h
    have f1 := AutoSeq1.idx_int
    wp_walk using wpAny_loadPart' hl
    repeat (first
      | (refine wpAny_ite_false (decide_eq_false (by rw [c0]; exact Bool.false_ne_true)) ?_; wp_walk using wpAny_loadPart' hl)
      | (refine wpAny_ite_true (decide_eq_true c1) ?_; wp_walk using wpAny_loadPart' hl))
    exact ⟨_, rfl, h⟩
theorem tupNone (l : Addr) (items : Array Value) (n : Nat) (dd : Option Addr) (sl : Array (Option Value)) (x : Int) (u : Tok) (c0 : (decide (x < -(2 ^ 63)) || decide (x ≥ 2 ^ 63)) = false) (c1 : (items.isEmpty || x == 1) = false) (c2 : (decide (x ≤ 0) || items.isEmpty) = true) :
    Meets (Builtin.«tuple.__mul__» ⟨[.ref l, .int x u], []⟩) (fun _ R s => s.heap.get? l = some { cls := .type "tuple", dict := dd, data := .seq items n, slots := sl } ∧
      R (.ok (.ret (Value.ref s.heap.objs.size))) { s with heap := s.heap.push { cls := Value.type "tuple", data := Data.seq #[] }, toks := s.toks }) :=
  .of_wp fun prog w A R s h => by
    obtain ⟨hp, g, d, tk, os⟩ := s
    obtain ⟨hl, h⟩ := h
    have f1 := AutoSeq1.idx_int
    wp_walk using wpAny_loadPart' hl
    repeat (first
      | (refine wpAny_ite_false (decide_eq_false (by rw [c0]; exact Bool.false_ne_true)) ?_; wp_walk using wpAny_loadPart' hl)
      | (refine wpAny_ite_false (decide_eq_false (by rw [c1]; exact Bool.false_ne_true)) ?_; wp_walk using wpAny_loadPart' hl)
      | (refine wpAny_ite_true (decide_eq_true c2) ?_; wp_walk using wpAny_loadPart' hl))
    exact ⟨_, rfl, h⟩
def mulE (a b : D) : Option D := match a, b with
  | .list xs, .int k => if -1000000000 ≤ k ∧ k ≤ 1000000000 ∧ xs.length * k.toNat ≤ sizeLine then some (.list (List.replicate k.toNat xs).flatten) else none
  | .tuple xs, .int k => if -1000000000 ≤ k ∧ k ≤ 1000000000 ∧ xs.length * k.toNat ≤ 1000000 then some (.tuple (List.replicate k.toNat xs).flatten) else none
  | a, b => mulD a b
theorem dps_rep {H : Hp} {vs : List V} {ds : List D} (h : Dds H vs ds) : ∀ k : Nat, Dds H (List.replicate k vs).flatten (List.replicate k ds).flatten
  | 0 => .nil
  | k + 1 => by
    rw [List.replicate_succ, List.replicate_succ, List.flatten_cons, List.flatten_cons]
    exact dps_app h (dps_rep h k)
theorem rep_len {α : Type} (k : Nat) (l : List α) : (List.replicate k l).flatten.length = l.length * k := by
  induction k with
  | zero => simp
  | succ k ih => rw [List.replicate_succ, List.flatten_cons, List.length_append, ih, Nat.mul_succ]; omega
section
variable {X : Cx}
theorem mulE_ok : OpR X (binaryOp .Mult) (rD mulE) := by
  intro pins s σ H x y v u Q I rx ry h
  obtain ⟨Hf, da, db, d, e, ex, ha, hb, q⟩ := h
  unfold mulE at e
  split at e
  · rename_i ds k
    split at e
    · rename_i hz
      obtain ⟨k1, k2, k3⟩ := hz
      cases e
      obtain ⟨l, vs, rfl, h1, h2⟩ := ha.lst
      have := hb.int_; subst this
      have l1 := dps_len h2
      cases rx
      obtain ⟨t, rfl⟩ := ry
      obtain ⟨z, its, n, r, hl, e⟩ := Inv.rdl I h1
      have hlen : its.toArray.size * k.toNat ≤ sizeLine := by rw [List.size_toArray, ← hl, l1]; exact k3
      have c1 : ¬ its.toArray.size * k.toNat > (2 ^ 63 - 1) / 8 := by
        have : (sizeLine : Nat) ≤ (2 ^ 63 - 1) / 8 := by decide
        omega
      have c2 : ¬ (!Builtin.List.listFitsIndex k) = true := by
        rw [fitsIndex_both (by omega) (by omega)]
        exact Bool.false_ne_true
      have c3 : ¬ Builtin.List.listTooLong (its.toArray.size * k.toNat) = true := by
        rw [notLongL hlen]
        exact Bool.false_ne_true
      have c4 : List.foldl (fun x1 x2 => x1 ++ x2) #[] (List.replicate (if its.toArray.isEmpty = true then 0 else k.toNat) its.toArray) = (List.replicate k.toNat its).flatten.toArray := by
        rw [size_rep]
        cases its with
        | nil => simp
        | cons a r' => rw [if_neg (by simp)]
      refine wpAny_binaryOp_repeat_ref (T := "list") (U := "int") (by decide) ⟨_, e, rfl⟩ (fun s' => typeIs_int s' k t) noFill_list_mul F.fills_int_mul F.slot_int_rmul repeat_list F.slot_int_index.lookup
        (call_meets F.slot_int_rmul (typeIs_int s k t) F.entry_int_rmul (F.args_int_rmul_2 _ _) (int___rmul___int_list k t l its.toArray n)
          ⟨e, rfl, ⟨_, e, rfl⟩, call_meets F.slot_list_mul ⟨_, e, rfl⟩ F.entry_list_mul (F.args_list_mul_2 _ _) (AutoListH.list___mul___list_int_3 l its.toArray n k t c2 c1 c3) ⟨e, ?_⟩⟩)
      rw [c4]
      have g := Gw.new (o := .lst (List.replicate k.toNat vs).flatten) ex I.fresh
      exact ⟨.ref _, _, I.lnew (t' := s.toks) (r.rep k.toNat) (by rw [rep_len, l1]; exact k3), rfl, q _ _ _ g (.lst (.inl upd_same) (dps_ex g.ex (dps_rep h2 _)))⟩
    · cases e
  · rename_i ds k
    split at e
    · rename_i hz
      obtain ⟨k1, k2, k3⟩ := hz
      cases e
      obtain ⟨l, vs, rfl, h1, h2⟩ := ha.tup
      have := hb.int_; subst this
      have l1 := dps_len h2
      cases rx
      obtain ⟨t, rfl⟩ := ry
      obtain ⟨its, r, ⟨⟨cls, dd, data, sl⟩, ho, hc, n, hd⟩, hs⟩ := I.tuple (.inl h1)
      simp only at hc hd
      subst hc hd
      have hle : its.length = vs.length := r.length.symm
      have c0 : (decide (k < -(2 ^ 63)) || decide (k ≥ 2 ^ 63)) = false := by
        rw [decide_eq_false (by omega), decide_eq_false (by omega)] <;> rfl
      have road : ∀ {Q' : Value → Shared → Prop}, wpAny (model X.prog X.w) X.A (call (.builtin "tuple.__mul__") [.ref l, .int k t]) Q' X.xe s → wpAny (model X.prog X.w) X.A (binaryOp .Mult (.ref l) (.int k t)) Q' X.xe s := fun {Q'} hh =>
        wpAny_binaryOp_repeat_ref (T := "tuple") (U := "int") (by decide) ⟨_, ho, rfl⟩ (fun s' => typeIs_int s' k t) noFill_tuple_mul F.fills_int_mul F.slot_int_rmul repeat_tuple F.slot_int_index.lookup
          (call_meets F.slot_int_rmul (typeIs_int s k t) F.entry_int_rmul (F.args_int_rmul_2 _ _) (int_rmul_tuple k t l its.toArray n dd sl) ⟨ho, rfl, ⟨_, ho, rfl⟩, hh⟩)
      refine road ?_
      by_cases hsame : (its.toArray.isEmpty || k == 1) = true
      · refine call_meets F.slot_tuple_mul ⟨_, ho, rfl⟩ F.entry_tuple_mul (F.args_tuple_mul_2 _ _) (tupSame l its.toArray n dd sl k t c0 hsame) ⟨ho, ?_⟩
        refine ⟨.ref l, H, I, rfl, q _ _ _ (Gw.refl ex) ?_⟩
        have same : (List.replicate k.toNat ds).flatten = ds := by
          rcases Bool.or_eq_true_iff.mp hsame with z | z
          · have e0 : its = [] := by
              cases its with
              | nil => rfl
              | cons a b => simp at z
            subst e0
            have : ds = [] := List.length_eq_zero_iff.mp (by rw [← l1, ← hle]; rfl)
            subst this
            simp
          · have : k = 1 := by simpa using z
            subst this
            simp
        rw [same]
        exact ha.flat fun _ z => nomatch z
      · have c1 : (its.toArray.isEmpty || k == 1) = false := by simpa using hsame
        by_cases hnone : (decide (k ≤ 0) || its.toArray.isEmpty) = true
        · refine call_meets F.slot_tuple_mul ⟨_, ho, rfl⟩ F.entry_tuple_mul (F.args_tuple_mul_2 _ _) (tupNone l its.toArray n dd sl k t c0 c1 hnone) ⟨ho, ?_⟩
          have k0 : k ≤ 0 := by
            rcases Bool.or_eq_true_iff.mp hnone with z | z
            · exact of_decide_eq_true z
            · rw [z] at c1; simp at c1
          have e0 : k.toNat = 0 := by omega
          rw [e0] at q
          have g := Gw.new (o := .tup []) ex (I.hok.fresh (Nat.le_refl _))
          exact ⟨.ref s.heap.objs.size, _, I.laid (t' := s.toks) (o := .tup []) (fun b ob q => Heap.get?_push_of_some _ q) (Nat.le_refl _) ⟨Nat.zero_le _, [], .nil, PyProof.Rows.IsTup.new _ _⟩, rfl, q _ _ _ g (.tup (.inl upd_same) .nil)⟩
        · have c2 : (decide (k ≤ 0) || its.toArray.isEmpty) = false := by simpa using hnone
          have kp : 0 < k := by
            have := (Bool.or_eq_false_iff.mp c2).1
            have := of_decide_eq_false this
            omega
          have km : (k.toNat : Int) = k := by omega
          have hm : ((its.toArray.size : Nat) : Int) * k ≤ 1000000 := by
            have k4 : ((ds.length * k.toNat : Nat) : Int) ≤ 1000000 := Int.ofNat_le.mpr k3
            rw [Int.natCast_mul, km] at k4
            rw [List.size_toArray, hle, l1]
            exact k4
          have flen : (List.replicate k.toNat its).flatten.length ≤ sizeLine := by
            rw [rep_len, hle, l1, sizeLine_eq]
            omega
          have c4 : Builtin.Tuple.tupleTooMany (((its.toArray.size : Nat) : Int) * k) = false := by
            unfold Builtin.Tuple.tupleTooMany
            rw [sizeLine_eq]
            exact decide_eq_false (by omega)
          refine call_meets F.slot_tuple_mul ⟨_, ho, rfl⟩ F.entry_tuple_mul (F.args_tuple_mul_2 _ _) (tuple_mulW l its.toArray n dd sl k t c0 c1 c2 (by omega) c4 (by rw [size_rep, List.size_toArray]; exact flen)) ⟨ho, ?_⟩
          rw [size_rep]
          have g := Gw.new (o := .tup (List.replicate k.toNat vs).flatten) ex (I.hok.fresh (Nat.le_refl _))
          exact ⟨.ref s.heap.objs.size, _, I.laid (t' := s.toks) (o := .tup (List.replicate k.toNat vs).flatten) (fun b ob q => Heap.get?_push_of_some _ q) (Nat.le_refl _) ⟨by rw [rep_len, l1, sizeLine_eq]; omega, _, r.rep k.toNat, PyProof.Rows.IsTup.new _ _⟩, rfl, q _ _ _ g (.tup (.inl upd_same) (dps_ex g.ex (dps_rep h2 _)))⟩
    · cases e
  · exact mul_ok pins s σ H x y v u Q I rx ry ⟨Hf, da, db, d, e, ex, ha, hb, q⟩
end
end Dn

set_option Elab.async false
set_option linter.all false
set_option maxRecDepth 100000
set_option maxHeartbeats 4000000
/-! Dn14: sorted(xs), sorted(set(xs)). -/
namespace Dn
open PySem L2
open PySem.Spec PyProof.Rows
/-! ### the order of texts -/
abbrev leS (a b : Str) : Prop := ltCps b.cps.toList a.cps.toList = false
theorem leS_iff (a b : Str) : leS a b ↔ ¬ b.cps.toList < a.cps.toList := by
  unfold leS
  rw [ltCps_eq]
  exact decide_eq_false_iff_not
theorem leS_trans {a b c : Str} (h : leS a b) (k : leS b c) : leS a c := by
  rw [leS_iff] at *
  have h' : a.cps.toList ≤ b.cps.toList := h
  have k' : b.cps.toList ≤ c.cps.toList := k
  exact List.le_trans h' k'
theorem leS_total (a b : Str) : leS a b ∨ leS b a := by
  rw [leS_iff, leS_iff]
  by_cases h : b.cps.toList < a.cps.toList
  · exact .inr (List.lt_asymm h)
  · exact .inl h
theorem leS_antisymm {a b : Str} (h : leS a b) (k : leS b a) : a = b := by
  rw [leS_iff] at *
  have h' : a.cps.toList ≤ b.cps.toList := h
  have k' : b.cps.toList ≤ a.cps.toList := k
  have e : a.cps.toList = b.cps.toList := List.le_antisymm h' k'
  obtain ⟨a⟩ := a
  obtain ⟨b⟩ := b
  simp only at e
  rw [Array.toList_inj.mp e]
def insT (x : Str) : List Str → List Str
  | [] => [x]
  | y :: r => if ltCps y.cps.toList x.cps.toList = true then y :: insT x r else x :: y :: r
def sortT : List Str → List Str
  | [] => []
  | x :: r => insT x (sortT r)
theorem insT_perm (x : Str) : ∀ l, (insT x l).Perm (x :: l)
  | [] => .refl _
  | y :: r => by
    unfold insT
    split
    · exact ((insT_perm x r).cons y).trans (.swap _ _ _)
    · exact .refl _
theorem sortT_perm : ∀ l, (sortT l).Perm l
  | [] => .refl _
  | x :: r => (insT_perm x _).trans ((sortT_perm r).cons x)
theorem insT_up (x : Str) : ∀ l : List Str, l.Pairwise leS → (insT x l).Pairwise leS
  | [], _ => by simp [insT]
  | y :: r, h => by
    obtain ⟨h1, h2⟩ := List.pairwise_cons.mp h
    unfold insT
    split
    · rename_i c
      refine List.pairwise_cons.mpr ⟨fun z hz => ?_, insT_up x r h2⟩
      rcases List.mem_cons.mp ((insT_perm x r).mem_iff.mp hz) with rfl | hz
      · rcases leS_total y z with q | q
        · exact q
        · unfold leS at q; rw [c] at q; cases q
      · exact h1 z hz
    · rename_i c
      have c' : leS x y := by unfold leS; simpa using c
      refine List.pairwise_cons.mpr ⟨fun z hz => ?_, h⟩
      rcases List.mem_cons.mp hz with rfl | hz
      · exact c'
      · exact leS_trans c' (h1 z hz)
theorem sortT_up : ∀ l, (sortT l).Pairwise leS
  | [] => .nil
  | x :: r => insT_up x _ (sortT_up r)
theorem up_of_rising : ∀ (p : Str) (l : List Str), risingS p l = true → (p :: l).Pairwise leS
  | p, [], _ => by simp
  | p, x :: r, h => by
    have h' : (!ltCps x.cps.toList p.cps.toList && risingS x r) = true := h
    rw [Bool.and_eq_true] at h'
    have c : leS p x := by
      have := h'.1
      unfold leS
      simpa using this
    have ih := up_of_rising x r h'.2
    refine List.pairwise_cons.mpr ⟨fun z hz => ?_, ih⟩
    rcases List.mem_cons.mp hz with rfl | hz
    · exact c
    · exact leS_trans c ((List.pairwise_cons.mp ih).1 z hz)
theorem up_of_sortedS : ∀ l : List Str, sortedS l = true → l.Pairwise leS
  | [], _ => .nil
  | x :: r, h => up_of_rising x r h
theorem eq_sortT {l l' : List Str} (hp : l'.Perm l) (hs : l'.Pairwise leS) : l' = sortT l :=
  List.Perm.eq_of_pairwise (fun _ _ _ _ a b => leS_antisymm a b) hs (sortT_up l) (hp.trans (sortT_perm l).symm)
theorem sortT_fix {l : List Str} (h : l.Pairwise leS) : sortT l = l := (eq_sortT (.refl l) h).symm
theorem sortT_congr {l l' : List Str} (p : l.Perm l') : sortT l = sortT l' := eq_sortT ((sortT_perm l).trans p) (sortT_up l)
/-! ### sorted(set) -/
def sortKT : List Key → Option (List Str)
  | [] => some []
  | .inr x :: r => (sortKT r).map (x :: ·)
  | _ => none
def sortKI : List Key → Option (List Int)
  | [] => some []
  | .inl x :: r => (sortKI r).map (x :: ·)
  | _ => none
theorem sortKT_eq : ∀ {ks : List Key} {xs : List Str}, sortKT ks = some xs → ks = xs.map Sum.inr
  | [], xs, h => by cases h; rfl
  | .inl i :: r, xs, h => by cases h
  | .inr x :: r, xs, h => by
    unfold sortKT at h
    cases e : sortKT r with
    | none => rw [e] at h; cases h
    | some ys => rw [e] at h; cases h; rw [sortKT_eq e]; rfl
theorem sortKI_eq : ∀ {ks : List Key} {xs : List Int}, sortKI ks = some xs → ks = xs.map Sum.inl
  | [], xs, h => by cases h; rfl
  | .inr i :: r, xs, h => by cases h
  | .inl x :: r, xs, h => by
    unfold sortKI at h
    cases e : sortKI r with
    | none => rw [e] at h; cases h
    | some ys => rw [e] at h; cases h; rw [sortKI_eq e]; rfl
theorem strsAre_keys : ∀ {vs : List Value} {ks : List Key}, (∀ v ∈ vs, ∃ k, keyIs k v = true) → vs.map kvV = ks → ∀ {xs : List Str}, ks = xs.map Sum.inr → StrsAre vs xs
  | [], _, _, e, xs, h => by
    subst e
    cases xs with
    | nil => exact .nil
    | cons _ _ => cases h
  | v :: vs, _, g, e, xs, h => by
    subst e
    cases xs with
    | nil => cases h
    | cons x xs =>
      rw [List.map_cons, List.map_cons] at h
      injection h with h1 h2
      obtain ⟨k, hk⟩ := g v List.mem_cons_self
      have q := kvV_self hk
      rw [h1] at q
      subst q
      rcases keyIs_shape hk with ⟨i, t, z, _⟩ | ⟨y, t, z, rfl⟩
      · cases z
      · injection z with z
        subst z
        exact .cons x t (strsAre_keys (fun u hu => g u (List.mem_cons_of_mem _ hu)) rfl h2)
theorem intsAre_keys : ∀ {vs : List Value} {ks : List Key}, (∀ v ∈ vs, ∃ k, keyIs k v = true) → vs.map kvV = ks → ∀ {xs : List Int}, ks = xs.map Sum.inl → IntsAre vs xs
  | [], _, _, e, xs, h => by
    subst e
    cases xs with
    | nil => exact .nil
    | cons _ _ => cases h
  | v :: vs, _, g, e, xs, h => by
    subst e
    cases xs with
    | nil => cases h
    | cons x xs =>
      rw [List.map_cons, List.map_cons] at h
      injection h with h1 h2
      obtain ⟨k, hk⟩ := g v List.mem_cons_self
      have q := kvV_self hk
      rw [h1] at q
      subst q
      rcases keyIs_shape hk with ⟨y, t, z, rfl⟩ | ⟨i, t, z, _⟩
      · injection z with z
        subst z
        exact .cons x t (intsAre_keys (fun u hu => g u (List.mem_cons_of_mem _ hu)) rfl h2)
      · cases z
theorem perm_map_inr {ks : List Key} {xs : List Str} (p : ks.Perm (xs.map Sum.inr)) : ∃ ys : List Str, ks = ys.map Sum.inr ∧ ys.Perm xs := by
  have hall : ∀ k ∈ ks, ∃ x, k = Sum.inr x := fun k hk => by
    obtain ⟨x, _, rfl⟩ := List.mem_map.mp (p.mem_iff.mp hk)
    exact ⟨x, rfl⟩
  let f : Key → Str := fun k => match k with
    | .inr x => x
    | _ => ⟨#[]⟩
  refine ⟨ks.map f, ?_, ?_⟩
  · rw [List.map_map]
    conv => lhs; rw [← List.map_id ks]
    refine List.map_congr_left fun k hk => ?_
    obtain ⟨x, rfl⟩ := hall k hk
    rfl
  · have q := p.map f
    rw [List.map_map] at q
    rw [show (f ∘ Sum.inr) = id from rfl, List.map_id] at q
    exact q
theorem perm_map_inl {ks : List Key} {xs : List Int} (p : ks.Perm (xs.map Sum.inl)) : ∃ ys : List Int, ks = ys.map Sum.inl ∧ ys.Perm xs := by
  have hall : ∀ k ∈ ks, ∃ x, k = Sum.inl x := fun k hk => by
    obtain ⟨x, _, rfl⟩ := List.mem_map.mp (p.mem_iff.mp hk)
    exact ⟨x, rfl⟩
  let f : Key → Int := fun k => match k with
    | .inl x => x
    | _ => 0
  refine ⟨ks.map f, ?_, ?_⟩
  · rw [List.map_map]
    conv => lhs; rw [← List.map_id ks]
    refine List.map_congr_left fun k hk => ?_
    obtain ⟨x, rfl⟩ := hall k hk
    rfl
  · have q := p.map f
    rw [List.map_map] at q
    rw [show (f ∘ Sum.inl) = id from rfl, List.map_id] at q
    exact q
section
variable {P : Program} {w : World} {A : Around} {E : Value → Shared → Prop} {s : Shared} {a : Addr} {ks : List Key}
theorem sortX {Q : Value → Shared → Prop} (R : SetX w s.heap a ks) (hh : A.handled = none)
    (hQ : ∀ s' p (out : Array Value) (c : Nat), (∀ b o, s.heap.get? b = some o → s'.heap.get? b = some o) → s'.gens = s.gens → s'.os = s.os → s.heap.objs.size ≤ p →
      s'.heap.get? p = some (seqObj "list" out c) → (∀ xs, ks = xs.map Sum.inr → StrsAre out.toList (sortT xs)) → (∀ xs, ks = xs.map Sum.inl → IntsAre out.toList (PySem.W.sortI xs)) → Q (.ref p) s')
    (hk : (∃ xs : List Str, ks = xs.map Sum.inr) ∨ (∃ xs : List Int, ks = xs.map Sum.inl)) :
    wpAny (model P w) A (call (.builtin "sorted") [.ref a]) Q E s := by
  obtain ⟨o, es, ep, t, ho, hex, hd, g, nd, pk, hb, hf, hr, hl⟩ := R
  refine Calls.call_function_entry kind_sorted plain_sorted entry_sorted (args_sorted1 _) ?_
  unfold Builtin.«sorted»
  refine wpAny_bind (m := checkCount "sorted" 1 1 _) (wpAny_pure ?_)
  refine wpAny_bind (collect_set (A := A.in1) hh ⟨o, ho, hex.1, hd⟩ hf hb hr hl fun s1 vs k1 hz e1 e2 pm => ?_)
  have hgood : ∀ v ∈ vs, ∃ k, keyIs k v = true := fun v hv => by
    obtain ⟨e, he, q⟩ := List.mem_map.mp (pm.mem_iff.mp hv)
    obtain ⟨k, h1, _⟩ := g e he
    exact ⟨k, q ▸ h1⟩
  have hkp : (vs.map kvV).Perm ks := by
    have q := pm.map kvV
    rw [List.map_map] at q
    exact q.trans pk
  have hvl : vs.length < scanBound := by
    have q : vs.length = es.size := by rw [pm.length_eq, List.length_map, Array.length_toList]
    rw [q]; exact hb
  have sb : scanBound = 4096 := rfl
  have hvz : vs.length ≤ sizeLine := by rw [sizeLine_eq]; omega
  refine wpAny_bind (wpAny_newList ?_ hvz)
  have hoL : (s1.heap.push (seqObj "list" vs.toArray 0)).get? s1.heap.objs.size = some (seqObj "list" vs.toArray 0) := Heap.get?_push_size _ rfl
  have keep : ∀ (out : Array Value) b u, s.heap.get? b = some u → (sortedHeap (s1.heap.push (seqObj "list" vs.toArray 0)) s1.heap.objs.size vs out).get? b = some u := fun out b u e => by
    have q := k1 b u e
    have hlt := Heap.lt_size q
    rw [sortedHeap_old (Nat.ne_of_lt hlt) (by rw [size_push']; exact Nat.lt_succ_of_lt hlt)]
    exact Heap.get?_push_of_some _ q
  rcases hk with ⟨xs, rfl⟩ | ⟨xs, rfl⟩
  · obtain ⟨ys, ey, py⟩ := perm_map_inr hkp
    have hS : StrsAre vs ys := strsAre_keys hgood rfl ey
    refine wpAny_bind (wpAny_holding (wpAny_call_entry slot_list_sort ⟨_, hoL, rfl⟩ entry_list_sort
      (list_sort_treeKAny strKind_oneLt hoL hS.keysOf (fun v₁ v₂ rest e => keyKind_strs (by rw [← e]; exact hS)) hvz fun st' hp hs => ⟨_, rfl, ?_⟩) (args_list_sort _)))
    obtain ⟨zs, g1, g2, g3⟩ := sorted_out_str hS hp hs
    have ez : zs = sortT xs := eq_sortT (g2.trans py) (up_of_sortedS zs g3)
    subst ez
    obtain ⟨c, hc⟩ := sortedHeap_at (vs := vs) (out := (arrOf st').map (·.2)) hoL
    refine wpAny_pure ⟨_, rfl, hQ _ s1.heap.objs.size _ c (keep _) e1 e2 hz hc (fun xs' e => ?_) fun xs' e => ?_⟩
    · have : xs = xs' := by
        have q := congrArg (List.map (fun k : Key => match k with | .inr x => x | _ => ⟨#[]⟩)) e
        simp only [List.map_map] at q
        simpa [Function.comp_def] using q
      subst this; exact g1
    · cases xs with
      | nil =>
        cases xs' with
        | nil =>
          have g1' : StrsAre ((arrOf st').map (·.2)).toList [] := g1
          cases h : ((arrOf st').map (·.2)).toList with
          | nil => exact .nil
          | cons _ _ => rw [h] at g1'; cases g1'
        | cons _ _ => cases e
      | cons _ _ => cases xs' <;> cases e
  · obtain ⟨ys, ey, py⟩ := perm_map_inl hkp
    have hS : IntsAre vs ys := intsAre_keys hgood rfl ey
    refine wpAny_bind (wpAny_holding (wpAny_call_entry slot_list_sort ⟨_, hoL, rfl⟩ entry_list_sort
      (list_sort_treeAny hoL hS hvz fun out zs g1 g2 g3 => ⟨_, rfl, ?_⟩) (args_list_sort _)))
    have ez : zs = PySem.W.sortI xs := PySem.W.eq_sortI (g2.trans py) g3
    subst ez
    obtain ⟨c, hc⟩ := sortedHeap_at (vs := vs) (out := out) hoL
    refine wpAny_pure ⟨_, rfl, hQ _ s1.heap.objs.size _ c (keep _) e1 e2 hz hc (fun xs' e => ?_) fun xs' e => ?_⟩
    · cases xs with
      | nil =>
        cases xs' with
        | nil =>
          have g1' : IntsAre out.toList [] := g1
          cases h : out.toList with
          | nil => exact .nil
          | cons _ _ => rw [h] at g1'; cases g1'
        | cons _ _ => cases e
      | cons _ _ => cases xs' <;> cases e
    · have : xs = xs' := by
        have q := congrArg (List.map (fun k : Key => match k with | .inl x => x | _ => 0)) e
        simp only [List.map_map] at q
        simpa [Function.comp_def] using q
      subst this; exact g1
end
/-! ### lists of ints, lists of texts, as data -/
def intsD : List D → Option (List Int)
  | [] => some []
  | .int i :: r => (intsD r).map (i :: ·)
  | _ => none
def txtsD : List D → Option (List Str)
  | [] => some []
  | .str x :: r => (txtsD r).map (x :: ·)
  | _ => none
theorem intsD_vs {Hf : Hp} : ∀ {vs : List V} {xs : List D} {ns : List Int}, Dds Hf vs xs → intsD xs = some ns → vs = ns.map V.int
  | _, _, ns, .nil, e => by
    have : [] = ns := Option.some.inj e
    subst this; rfl
  | _, _, ns, .cons (d := d) (ds := ds) h t, e => by
    cases d with
    | int i =>
      cases h
      cases z : intsD ds with
      | none => simp [intsD, z] at e
      | some r =>
        simp [intsD, z] at e
        subst e
        rw [intsD_vs t z]; rfl
    | _ => cases e
theorem txtsD_vs {Hf : Hp} : ∀ {vs : List V} {xs : List D} {ns : List Str}, Dds Hf vs xs → txtsD xs = some ns → vs = ns.map V.str
  | _, _, ns, .nil, e => by
    have : [] = ns := Option.some.inj e
    subst this; rfl
  | _, _, ns, .cons (d := d) (ds := ds) h t, e => by
    cases d with
    | str i =>
      cases h
      cases z : txtsD ds with
      | none => simp [txtsD, z] at e
      | some r =>
        simp [txtsD, z] at e
        subst e
        rw [txtsD_vs t z]; rfl
    | _ => cases e
theorem dds_ints {Hf : Hp} : ∀ ns : List Int, Dds Hf (ns.map V.int) (ns.map PyData.int)
  | [] => .nil
  | i :: r => .cons (.int i) (dds_ints r)
theorem dds_txts {Hf : Hp} : ∀ ns : List Str, Dds Hf (ns.map V.str) (ns.map PyData.str)
  | [] => .nil
  | i :: r => .cons (.str i) (dds_txts r)
def sortD (xs : List D) : Option D := if xs.length ≤ sizeLine then (match intsD xs with
  | some ns => some (.list ((PySem.W.sortI ns).map .int))
  | none => match txtsD xs with
    | some ys => some (.list ((sortT ys).map .str))
    | none => none) else none
def sortedG : List D → Option D
  | [.list xs] => sortD xs
  | _ => none
def sumG : List D → Option D
  | [.list xs] => (intsD xs).map fun ns => .int ns.sum
  | _ => none
def mostI : List Int → Int
  | [] => 0
  | [a] => a
  | a :: r => max a (mostI r)
def leastI : List Int → Int
  | [] => 0
  | [a] => a
  | a :: r => min a (leastI r)
theorem mostI_is : ∀ {ns : List Int} {m : Int}, m ∈ ns → (∀ y ∈ ns, y ≤ m) → m = mostI ns
  | [], _, h, _ => by cases h
  | [a], m, h, _ => by simpa [mostI] using h
  | a :: b :: r, m, h, k => by
    show m = max a (mostI (b :: r))
    have ka := k a List.mem_cons_self
    have kr : ∀ y ∈ b :: r, y ≤ m := fun y hy => k y (List.mem_cons_of_mem _ hy)
    have all : ∀ y ∈ b :: r, y ≤ mostI (b :: r) ∧ True := fun y hy => ⟨le_most y (b :: r) hy, trivial⟩
    have mem := most_mem (b :: r) (by simp)
    have km := kr _ mem
    rcases List.mem_cons.mp h with rfl | h
    · omega
    · have := (all m h).1
      omega
where
  le_most : ∀ (y : Int) (ns : List Int), y ∈ ns → y ≤ mostI ns
    | y, [], h => by cases h
    | y, [a], h => by have : y = a := by simpa using h
                      subst this; exact Int.le_refl _
    | y, a :: b :: r, h => by
      show y ≤ max a (mostI (b :: r))
      rcases List.mem_cons.mp h with rfl | h
      · omega
      · have := le_most y (b :: r) h
        omega
  most_mem : ∀ (ns : List Int), ns ≠ [] → mostI ns ∈ ns
    | [], h => absurd rfl h
    | [a], _ => by simp [mostI]
    | a :: b :: r, _ => by
      show max a (mostI (b :: r)) ∈ a :: b :: r
      have := most_mem (b :: r) (by simp)
      by_cases h : a ≤ mostI (b :: r)
      · rw [Int.max_eq_right h]; exact List.mem_cons_of_mem _ this
      · rw [Int.max_eq_left (by omega)]; exact List.mem_cons_self
theorem leastI_is : ∀ {ns : List Int} {m : Int}, m ∈ ns → (∀ y ∈ ns, m ≤ y) → m = leastI ns
  | [], _, h, _ => by cases h
  | [a], m, h, _ => by simpa [leastI] using h
  | a :: b :: r, m, h, k => by
    show m = min a (leastI (b :: r))
    have ka := k a List.mem_cons_self
    have kr : ∀ y ∈ b :: r, m ≤ y := fun y hy => k y (List.mem_cons_of_mem _ hy)
    have mem := least_mem (b :: r) (by simp)
    have km := kr _ mem
    rcases List.mem_cons.mp h with rfl | h
    · omega
    · have := least_le m (b :: r) h
      omega
where
  least_le : ∀ (y : Int) (ns : List Int), y ∈ ns → leastI ns ≤ y
    | y, [], h => by cases h
    | y, [a], h => by have : y = a := by simpa using h
                      subst this; exact Int.le_refl _
    | y, a :: b :: r, h => by
      show min a (leastI (b :: r)) ≤ y
      rcases List.mem_cons.mp h with rfl | h
      · omega
      · have := least_le y (b :: r) h
        omega
  least_mem : ∀ (ns : List Int), ns ≠ [] → leastI ns ∈ ns
    | [], h => absurd rfl h
    | [a], _ => by simp [leastI]
    | a :: b :: r, _ => by
      show min a (leastI (b :: r)) ∈ a :: b :: r
      have := least_mem (b :: r) (by simp)
      by_cases h : a ≤ leastI (b :: r)
      · rw [Int.min_eq_left h]; exact List.mem_cons_self
      · rw [Int.min_eq_right (by omega)]; exact List.mem_cons_of_mem _ this
def maxLG : List D → Option D
  | [.list xs] => match intsD xs with
    | some ns => if 0 < ns.length then some (.int (mostI ns)) else none
    | none => none
  | _ => none
def minLG : List D → Option D
  | [.list xs] => match intsD xs with
    | some ns => if 0 < ns.length then some (.int (leastI ns)) else none
    | none => none
  | _ => none
section
variable {X : Cx}
theorem sum_ok (hc : X.calm = true) : CallR X (.builtin "sum") (rCd sumG) := by
  intro pins s σ H xs us Q I r h
  obtain ⟨Hf, ds, d, e, ex, hl, q⟩ := h
  unfold sumG at e
  split at e
  · rename_i zs
    cases z : intsD zs with
    | none => rw [z] at e; cases e
    | some ns =>
      rw [z] at e
      cases e
      obtain ⟨v, rfl, h1⟩ := lvs_one hl
      obtain ⟨a, vs, rfl, g1, g2⟩ := h1.lst
      have ev := intsD_vs g2 z
      subst ev
      exact cr_sum hc pins s σ H _ us Q I r ⟨a, ns, rfl, .inl g1, q _ _ _ (Gw.refl ex) (.int _)⟩
  · cases e
theorem maxL_ok (hc : X.calm = true) : CallR X (.builtin "max") (rCd maxLG) := by
  intro pins s σ H xs us Q I r h
  obtain ⟨Hf, ds, d, e, ex, hl, q⟩ := h
  unfold maxLG at e
  split at e
  · rename_i zs
    split at e
    · rename_i ns z
      split at e
      · rename_i hlt
        cases e
        obtain ⟨v, rfl, h1⟩ := lvs_one hl
        obtain ⟨a, vs, rfl, g1, g2⟩ := h1.lst
        have ev := intsD_vs g2 z
        subst ev
        exact cr_max hc pins s σ H _ us Q I r ⟨a, ns, rfl, .inl g1, hlt, fun m h1 h2 => by rw [mostI_is h1 h2]; exact q _ _ _ (Gw.refl ex) (.int _)⟩
      · cases e
    · cases e
  · cases e
theorem minL_ok (hc : X.calm = true) : CallR X (.builtin "min") (rCd minLG) := by
  intro pins s σ H xs us Q I r h
  obtain ⟨Hf, ds, d, e, ex, hl, q⟩ := h
  unfold minLG at e
  split at e
  · rename_i zs
    split at e
    · rename_i ns z
      split at e
      · rename_i hlt
        cases e
        obtain ⟨v, rfl, h1⟩ := lvs_one hl
        obtain ⟨a, vs, rfl, g1, g2⟩ := h1.lst
        have ev := intsD_vs g2 z
        subst ev
        exact cr_min hc pins s σ H _ us Q I r ⟨a, ns, rfl, .inl g1, hlt, fun m h1 h2 => by rw [leastI_is h1 h2]; exact q _ _ _ (Gw.refl ex) (.int _)⟩
      · cases e
    · cases e
  · cases e
theorem sorted_ok : CallR X (.builtin "sorted") (rCd sortedG) := by
  intro pins s σ H xs us Q I r h
  obtain ⟨Hf, ds, d, e, ex, hl, q⟩ := h
  unfold sortedG at e
  split at e
  · rename_i zs
    obtain ⟨v, rfl, h1⟩ := lvs_one hl
    obtain ⟨a, vs, rfl, g1, g2⟩ := h1.lst
    unfold sortD at e
    split at e
    · rename_i hz
      obtain ⟨its, rv, pl, _⟩ := I.list (.inl g1)
      have hlen : its.length ≤ sizeLine := by rw [← rv.length, dps_len g2]; exact hz
      rw [Vals.ref1 r]
      split at e
      · rename_i ns z
        cases e
        have ev := intsD_vs g2 z
        subst ev
        refine PyProof.Rows.sorted_intsAny pl.isList rv.ints hlen fun out ns' k1 k2 k3 => ?_
        have ez := PySem.W.eq_sortI k2 k3
        subst ez
        obtain ⟨ep, he'⟩ := PyProof.Rows.sortedAll_at s.heap its out
        have hn : ((PySem.W.sortI ns).map V.int).length ≤ sizeLine := by rw [List.length_map, k2.length_eq]; rw [← rv.length, List.length_map] at hlen; exact hlen
        have hp := I.hok.fresh (Nat.le_succ s.heap.objs.size)
        have g := Gw.new (o := .lst ((PySem.W.sortI ns).map V.int)) ex hp
        exact ⟨.ref _, upd H (s.heap.objs.size + 1) (.lst ((PySem.W.sortI ns).map V.int)), I.laid (t' := s.toks) (fun _ _ => PyProof.Rows.sortedAll_old) (Nat.le_succ _) ⟨hn, out.toList, ep, vals_of_ints k1, he'⟩, rfl,
          q _ _ _ g (.lst (.inl upd_same) (dds_ints _))⟩
      · split at e
        · rename_i ys z
          cases e
          have ev := txtsD_vs g2 z
          subst ev
          refine PyProof.Rows.sorted_strsAny pl.isList rv.strs hlen fun out ns' k1 k2 k3 => ?_
          have ez := eq_sortT k2 (up_of_sortedS ns' k3)
          subst ez
          obtain ⟨ep, he'⟩ := PyProof.Rows.sortedAll_at s.heap its out
          have hn : ((sortT ys).map V.str).length ≤ sizeLine := by rw [List.length_map, k2.length_eq]; rw [← rv.length, List.length_map] at hlen; exact hlen
          have hp := I.hok.fresh (Nat.le_succ s.heap.objs.size)
          have g := Gw.new (o := .lst ((sortT ys).map V.str)) ex hp
          exact ⟨.ref _, upd H (s.heap.objs.size + 1) (.lst ((sortT ys).map V.str)), I.laid (t' := s.toks) (fun _ _ => PyProof.Rows.sortedAll_old) (Nat.le_succ _) ⟨hn, out.toList, ep, vals_of_strs k1, he'⟩, rfl,
            q _ _ _ g (.lst (.inl upd_same) (dds_txts _))⟩
        · cases e
    · cases e
  · cases e
end
/-! ### sorted(set(xs)) -/
def sortK (ks : List Key) : Option (List V × List D) := match sortKI ks with
  | some ns => some ((PySem.W.sortI ns).map V.int, (PySem.W.sortI ns).map .int)
  | none => match sortKT ks with
    | some ys => some ((sortT ys).map V.str, (sortT ys).map .str)
    | none => none
theorem sortK_dds {Hf : Hp} {ks : List Key} {vs : List V} {ds : List D} (h : sortK ks = some (vs, ds)) : Dds Hf vs ds := by
  unfold sortK at h
  split at h
  · cases h; exact dds_ints _
  · split at h
    · cases h; exact dds_txts _
    · cases h
def srtSD (xs : List D) : Option D := match kysD xs with
  | some ks => if ks.length < 4000 then (sortK (fmK ks)).map fun p => .list p.2 else none
  | none => none
def sortedSetG : List D → Option D
  | [.list xs] => srtSD xs
  | [.tuple xs] => srtSD xs
  | _ => none
section
variable {X : Cx} {W : WX} {a : Expr} {f : List S → M S}
def tSrS (K : PySem.W.Frag) (ta : TE) : TE := fun σ H Q => ta σ H fun x H1 => ∃ (b : Bool) (l : Addr) (vs : List V) (ks : List Key) (q : List V × List D), x = V.ref l ∧ (if b = true then SqT K H1 l vs else SqL K H1 l vs) ∧ vs = ks.map kV ∧ ks.length + 1 < scanBound ∧ sortK (fmK ks) = some q ∧
  ∀ p, H1 p = none → Q (.ref p) (upd H1 p (.lst q.1))
theorem pe_srS {ta : TE} {p p2 q pos : Pos} (hc : X.calm = true) (hg : Gl X "sorted") (hm : X.mg "sorted" = none) (hg2 : Gl X "set") (hm2 : X.mg "set" = none) (ha : PE X a ta)
    (na : starEach [a] X.env = (false, eval a X.env) :: starEach [] X.env) : PE X (.Call (.Name "sorted" p) [.Call (.Name "set" p2) [a] [] q] [] pos) (tSrS X.K ta) := by
  refine ⟨fun pins s σ H Q I h => ?_⟩
  refine PyProof.Rows.Call_ (ld_blt I hg hm (by decide +kernel : bootBuiltins "sorted" = some (.builtin "sorted")) ?_)
  refine PyProof.Rows.callWith_builtin1 (PyProof.Rows.args_cons ?_ rfl) rfl rfl
  refine PyProof.Rows.Call_ (ld_blt I hg2 hm2 PyProof.Rows.boot_set ?_)
  refine PyProof.Rows.callWith_type1 (PyProof.Rows.args_cons (thn (ha.run pins s σ H _ I h) fun v s1 ⟨x, H1, I1, r1, q1⟩ => PyProof.Rows.args_nil ?_) na) na rfl
  obtain ⟨b, l, vs, ks, z, rfl, hq, rfl, hlt, hs, q1⟩ := q1
  cases r1
  have go : ∀ (its : List Value), Vals (ks.map kV) its → (if b = true then s1.heap.IsTuple l its.toArray else s1.heap.IsList l its.toArray) → wpAny (model X.prog X.w) X.A (call (.type "set") [Value.ref l]) (fun u s2 => wpAny (model X.prog X.w) X.A (spliced (backTo pos (starEach [] X.env))) (fun us s3 => wpAny (model X.prog X.w) X.A (call (.builtin "sorted") (u :: us)) (EP X pins σ Q) X.xe s3) X.xe s2) X.xe s1 := fun its r hit => by
    have hl : ks.length = its.toArray.size := by rw [List.size_toArray, ← r.length, List.length_map]
    refine setCallX b (I1.ok.hd hc) hit hl (fun j v k e1 e2 => vals_keys (P := X.prog) (w := X.w) r j v k (by simpa using e1) e2) hlt fun g tk hS hk => ?_
    refine PyProof.Rows.args_nil ?_
    have I2 : Inv X pins σ H1 { s1 with heap := g, toks := tk } := I1.kept fun b o e => hk b o (Heap.lt_size e) e
    have lt := fmK_le ks
    have sb : scanBound = 4096 := rfl
    have hkk : (∃ xs : List Str, fmK ks = xs.map Sum.inr) ∨ (∃ xs : List Int, fmK ks = xs.map Sum.inl) := by
      unfold sortK at hs
      split at hs
      · rename_i ns e; exact .inr ⟨ns, sortKI_eq e⟩
      · split at hs
        · rename_i ns e; exact .inl ⟨ns, sortKT_eq e⟩
        · cases hs
    refine sortX hS (I2.ok.hd hc) (fun s' p out c k1 k2 k3 k4 k5 k6 k7 => ?_) hkk
    have hn : H1 p = none := I2.hok.fresh k4
    have hv : Vals z.1 out.toList ∧ z.1.length = out.toList.length := by
      unfold sortK at hs
      split at hs
      · rename_i ns e
        cases hs
        have w := vals_of_ints (k7 ns (sortKI_eq e))
        exact ⟨w, w.length⟩
      · split at hs
        · rename_i ns e
          cases hs
          have w := vals_of_strs (k6 ns (sortKT_eq e))
          exact ⟨w, w.length⟩
        · cases hs
    have hz : z.1.length ≤ sizeLine := by
      unfold sortK at hs
      split at hs
      · rename_i ns e
        cases hs
        have e1 := congrArg List.length (sortKI_eq e)
        rw [List.length_map] at e1
        show ((PySem.W.sortI ns).map V.int).length ≤ sizeLine
        rw [List.length_map, (PySem.W.sortI_perm ns).length_eq, sizeLine_eq]
        omega
      · split at hs
        · rename_i ns e
          cases hs
          have e1 := congrArg List.length (sortKT_eq e)
          rw [List.length_map] at e1
          show ((sortT ns).map V.str).length ≤ sizeLine
          rw [List.length_map, (sortT_perm ns).length_eq, sizeLine_eq]
          omega
        · cases hs
    have J : Inv X pins σ (upd H1 p (.lst z.1)) { ({ s1 with heap := g, toks := tk } : Shared) with heap := s'.heap, gens := s'.gens, drawn := s'.drawn, toks := s'.toks } :=
      I2.call (ch := []) (Un.laid k1 k4 hn) (I2.hok.laid k1 k4 ⟨hz, out.toList, c, hv.1, k5⟩) (by rw [k2]; exact I2.bare) (fun _ q => nomatch q)
    have e : s' = { ({ s1 with heap := g, toks := tk } : Shared) with heap := s'.heap, gens := s'.gens, drawn := s'.drawn, toks := s'.toks } := by
      cases s'
      cases k3
      rfl
    rw [e]
    exact ⟨.ref p, _, J, rfl, q1 p hn⟩
  cases b with
  | false =>
    obtain ⟨its, r, pl, hz⟩ := I1.list hq
    exact go its r pl.isList
  | true =>
    obtain ⟨its, r, pl, hz⟩ := I1.tuple hq
    exact go its r pl
theorem de_sortedSet {p p2 q pos : Pos} (hm : X.mg "sorted" = none) (hm2 : X.mg "set" = none) (ha : DE X W a f) (hc : X.calm = true := by rfl) (hg : Gl X "sorted" := by rfl) (hg2 : Gl X "set" := by rfl)
    (na : starEach [a] X.env = (false, eval a X.env) :: starEach [] X.env := by rfl) : DE X W (.Call (.Name "sorted" p) [.Call (.Name "set" p2) [a] [] q] [] pos) (eCd sortedSetG (aCons f aNil)) := by
  obtain ⟨t, pr, k⟩ := ha
  refine ⟨_, pe_srS hc hg hm hg2 hm2 pr na, fun B ca ρ cs Hf σ H Q r h => ?_⟩
  refine k B ca ρ cs Hf σ H _ r (h.bind.bind.mono fun ca1 Hf1 H1 cs1 s n1 r1 h1 v hv => ?_)
  have h2 : Gs X W B ca1 Hf1 ρ σ (bnd (vwsM [s]) (fun ds => bnd (ofO (sortedSetG ds)) fun d => ret (.d d)) cs1) (fun ca' Hf' H' _ s => ∀ v, SvOk ca' Hf' s v → Q v H') := (h1.ret_ r1)
  obtain ⟨ds, e1, h3⟩ := vwsM_ h2
  obtain ⟨d, e2, h4⟩ := ofOb_ h3
  have lv := vws_ok r1 (SvsOk.cons hv .nil) e1
  have sb : scanBound = 4096 := rfl
  have main : ∀ (b : Bool) (xs : List D) (l : Addr) (vs : List V), srtSD xs = some d → (if b = true then SqT X.K H1 l vs else SqL X.K H1 l vs) → Dds Hf1 vs xs →
      ∃ (b : Bool) (l' : Addr) (vs : List V) (ks : List Key) (q : List V × List D), V.ref l = V.ref l' ∧ (if b = true then SqT X.K H1 l' vs else SqL X.K H1 l' vs) ∧ vs = ks.map kV ∧ ks.length + 1 < scanBound ∧ sortK (fmK ks) = some q ∧
        ∀ p, H1 p = none → Q (.ref p) (upd H1 p (.lst q.1)) := fun b xs l vs e hq hd => by
    unfold srtSD at e
    split at e
    · rename_i ks ek
      split at e
      · rename_i hlt
        cases es : sortK (fmK ks) with
        | none => rw [es] at e; cases e
        | some z =>
          rw [es] at e
          cases e
          refine ⟨b, l, vs, ks, z, rfl, hq, kys_vs hd ek, by omega, es, fun p hp => ?_⟩
          have g := Gw.new (o := .lst z.1) r1.ext hp
          obtain ⟨r3, n3⟩ := r1.gw g
          exact h4 ca1 _ _ n3 r3 _ (show Dd _ _ _ from .lst (.inl upd_same) (sortK_dds es))
      · cases e
    · cases e
  match ds, e2, lv with
  | [x], e2, lv =>
    cases x with
    | list xs =>
      obtain ⟨l, vs, rfl, q1, q2⟩ := lv.1.lst
      exact main false xs l vs e2 (.inl q1) q2
    | tuple xs =>
      obtain ⟨l, vs, rfl, q1, q2⟩ := lv.1.tup
      exact main true xs l vs e2 (.inl q1) q2
    | _ => cases e2
  | [], e2, lv => exact absurd e2 (by simp [sortedSetG])
  | _ :: _ :: _, e2, lv => exact absurd e2 (by simp [sortedSetG])
end
end Dn

set_option Elab.async false
set_option linter.all false
set_option maxRecDepth 100000
set_option maxHeartbeats 1000000
/-! Dn15: str(x) of data; defs that stand where nothing is being shown. -/
namespace Dn
open PySem L2
open PySem.Spec PyProof.Rows
/-! ### str(x) of lists and tuples -/
def isSq : D → Bool
  | .list _ => true
  | .tuple _ => true
  | _ => false
def strLG : List D → Option D
  | [d] => if isSq d = true ∧ d.showable = true ∧ d.hasDict = false ∧ d.depth ≤ 100 ∧ d.shown.length ≤ sizeLine then some (.str d.shown) else none
  | _ => none
theorem strL_ok {X : Cx} (hg : X.A.guards = some []) (hu : X.A.units + 200 < cLine) : CallR X (.type "str") (rCd strLG) := by
  intro pins s σ H xs us Q I r h
  obtain ⟨Hf, ds, d, e, ex, hl, q⟩ := h
  unfold strLG at e
  split at e
  · rename_i d0
    split at e
    · rename_i c
      obtain ⟨c1, c2, c3, c4, c5⟩ := c
      cases e
      obtain ⟨v, rfl, hv⟩ := lvs_one hl
      have hd : Dp X.K H v d0 := dd_dp X.K hv.1
      have fin : ∀ (b : Addr), Dp X.K H (.ref b) d0 → Vals [V.ref b] us → (∀ v Hf' H', Gw Hf H Hf' H' → Dd Hf' v (.str d0.shown) → Q v H') → wpAny (model X.prog X.w) X.A (call (.type "str") us) (EP X pins σ Q) X.xe s := fun b hd r q => by
        rw [Vals.ref1 r]
        obtain ⟨as, hr⟩ := Dp.reads I d0 (.ref b) (.ref b) hd rfl
        refine PySem.str_of_reads hr c2 (fun z => by rw [c3] at z; cases z) hg (by omega) (fun _ _ e => e) (fun h' u tk hk => ?_) c5
        exact ⟨.str d0.shown, H, I.kept hk, ⟨u, rfl⟩, q _ _ _ (Gw.refl ex) (.str _)⟩
      cases d0 with
      | list ds0 =>
        obtain ⟨b, vs, rfl, _, _⟩ := hv.lst
        exact fin b hd r q
      | tuple ds0 =>
        obtain ⟨b, vs, rfl, _, _⟩ := hv.tup
        exact fin b hd r q
      | _ => cases c1
    · cases e
  · cases e
/-! ### defs that stand where nothing is being shown -/
structure FnG (P : Program) (w : World) (K : PySem.W.Frag) (mg : Str → Option Value) (base : Heap) (k : Nat) (f : Addr) (fd : FuncData) (ps : List Str) (sp : Sp) : Prop where
  len : ∀ vs H Q E, sp vs H Q E → vs.length = ps.length
  run : ∀ (A : Around) (outer : List Env) (s : Shared) (H : Hp) (args : Args) (us : List Value) (vs : List V) (Q : VK) (E : XK), A.guards = some [] → Room k A → Env0 P w K mg base A outer s H → BindsTo s fd args (ps.zip us) → Vals vs us → sp vs H Q E →
    codeAny (model P w) A (.call (.ref f) args) (CR (L2.CX P w) outer P w H s Q E) s
section
variable {P : Program} {w : World} {K : PySem.W.Frag} {mg : Str → Option Value} {base : Heap} {x qual : Str} {params : Arguments} {body : List Stmt} {scope : Scope} {dvs : List V} {kws : List (Str × V)} {f : Addr} {fd : FuncData} {N ps : List Str} {k : Nat}
theorem FnG.of {sp : Sp} (Fk : FnOk P w K mg base (L2.CX P w) k f fd ps sp) : FnG P w K mg base k f fd ps sp := ⟨Fk.len, fun A outer s H args us vs Q E _ hr => Fk.run A outer s H args us vs Q E hr⟩
/-- a def by its body, from any frame where nothing is being shown -/
theorem fnG_ok {sp : Sp} (Fd : FunD K x qual params body scope dvs kws f fd) (sc : FnScope N ps scope) (hl : ∀ vs H Q E, sp vs H Q E → vs.length = ps.length)
    (hb : ∀ (cdv : Value) (A : Around) (outer : List Env) (s : Shared) (H : Hp) (vs : List V) (Q : VK) (E : XK), A.guards = some [] → Room k (A.deeper (envOfC qual scope s.heap.objs.size f cdv)) → sp vs H Q E →
      ∃ t, PSs (cxOf (L2.CX P w) P w K mg base N qual scope f cdv A outer s H E) body t ∧ t { nx := fun _ H' => Q .non H', rt := Q } (L2.start N vs) H) :
    FnG P w K mg base (k + 1) f fd ps sp := by
  obtain ⟨oc, od, dV, kV, doc, pm, an, cdv, ct, osl, rfl, look, hcd, _, _⟩ := Fd.ex
  refine ⟨hl, fun A outer s H args us vs Q E hg hr e0 hbd rv hsp => ?_⟩
  have inK : K.In s.heap := e0.mod.kin.keeps fun b o e => (e0.bs b o e).1
  have nolim : s.heap.NoLimit := e0.mod.nolimit.keeps fun b o e => (e0.bs b o e).1
  have kinds : ∀ y ∈ ps.zip us, scope.names.lookup y.1 = some .local ∨ (scope.names.lookup y.1 = some .cell ∧ ((cellsFrom (s.heap.objs.size + 1) scope.names []).lookup y.1).isSome = true) := by
    rintro ⟨n, v⟩ hy
    refine (sc.par n (List.of_mem_zip hy).1).imp id fun q => ⟨q, ?_⟩
    exact PySem.W.cellsFrom_some _ _ _ (Or.inl q)
  apply codeAny_call_function hr.depth (inK _ _ look) rfl sc.co sc.gen rfl (PySem.W.codeRec_of inK hcd) (hbd _ _ _ _ ?_)
  apply wpAny_newFunctionEnv_cells sc.kind kinds
  rintro env rfl s1 w1
  refine ⟨nolim.keeps w1.toInCall.keep, codeAny_func ?_⟩
  obtain ⟨t, pt, qt⟩ := hb cdv A outer s H vs Q E hg (hr.deeper _) hsp
  have I0 : Inv (cxOf (L2.CX P w) P w K mg base N qual scope f cdv A outer s H E) [] (L2.start N vs) H s1 := inv_start sc hr.hd e0 (hl _ _ _ _ hsp) rv w1
  refine wpAny_mono (pt.run [] s1 (L2.start N vs) H _ I0 qt) (fun fl s2 hs => ?_) fun e s2 hs => hs
  cases fl with
  | ret u =>
    obtain ⟨v, τ, H2, J, ru, q⟩ := hs
    exact ⟨v, H2, J.os, J.bare, J.base, J.hok, ru, q⟩
  | next =>
    obtain ⟨τ, H2, J, q⟩ := hs
    exact ⟨.non, H2, J.os, J.bare, J.base, J.hok, rfl, q⟩
  | brk => exact (show False from hs.choose_spec.choose_spec.2).elim
  | cont => exact (show False from hs.choose_spec.choose_spec.2).elim
variable {F : List S → M Rv}
theorem body_run {g : G} (m : Nat) (hm : N.length = ps.length + m) {cdv : Value} {A : Around} {outer : List Env} {s : Shared} {H : Hp} {vs : List V} {Q : VK} {E : XK}
    (hd : DSs (BX P w K mg base N qual scope f cdv A outer s H E) (BW E) body g) (h : spE mg ps.length (runG m g) vs H Q E) :
    ∃ t, PSs (cxOf (L2.CX P w) P w K mg base N qual scope f cdv A outer s H E) body t ∧ t { nx := fun _ H' => Q .non H', rt := Q } (L2.start N vs) H := by
  obtain ⟨hl, B, ca, cs, Hf, ss, r, h⟩ := h
  obtain ⟨t, pt, kt⟩ := hd
  refine ⟨t, pt, ?_⟩
  have hss : ss.length = vs.length := by
    have := r.len
    rw [List.length_map] at this
    exact this.symm
  have hst : L2.start N vs = vs.map some ++ List.replicate m none := by
    unfold L2.start
    rw [hm, hl, Nat.add_sub_cancel_left]
  have r1 : Rel B ca (ss ++ List.replicate m .no) cs Hf (L2.start N vs) H := by
    rw [hst]
    refine r.slots (by simp [hss]) fun i sl e => ?_
    by_cases hi : i < ss.length
    · rw [List.getElem?_append_left hi] at e
      rcases r.sl i sl e with z | ⟨v, h1, h2⟩
      · exact .inl z
      · exact .inr ⟨v, by rw [List.getElem?_append_left (by simp; omega)]; exact h1, h2⟩
    · rw [List.getElem?_append_right (by omega), List.getElem?_replicate] at e
      split at e
      · cases e; exact .inl rfl
      · cases e
  refine kt B ca _ cs Hf _ H _ r1 ?_
  have hlc := r.lenc
  unfold runG at h
  cases e : g (ss ++ List.replicate m .no) cs with
  | nx ρ' cs' =>
    rw [e] at h
    exact fun ca' Hf' σ' H' n r' => h Hf' H' .non n.ex (r.cut n r') .non
  | rt rv cs' =>
    rw [e] at h
    intro ca' Hf' ρ' σ' H' v n r' hv
    have rc := r.cut n r'
    cases rv with
    | d x => exact h Hf' H' v n.ex rc (hv.cut (cs := cs) n fun j z => nomatch z)
    | own o => exact h Hf' H' v n.ex rc (hv.cut (cs := cs) n fun j z => nomatch z)
    | cel j =>
      by_cases hj : j < cs.length
      · have h' : match (Res.ok (Rv.cel j) (cs'.take cs.length) : Res Rv) with
          | .ok r cs' => ∀ Hf' H' v, Ex Hf Hf' → Rel B ca ss cs' Hf' (vs.map some) H' → RvOk B ca Hf' H' r v → Q v H'
          | .er c cs' => ∀ Hf' H' cls, Ex Hf Hf' → Rel B ca ss cs' Hf' (vs.map some) H' → mg c = some cls → E cls none H'
          | .no => False := by
          have e2 : fin cs.length (.rt (.cel j) cs') = .ok (.cel j) (cs'.take cs.length) := if_pos hj
          rw [← e2]; exact h
        exact h' Hf' H' v n.ex rc (hv.cut (cs := cs) n fun j' z => by cases z; omega)
      · obtain ⟨a, h1, rfl⟩ := hv
        have hj' : j < cs'.length := by rw [← r'.lenc]; exact (List.getElem?_eq_some_iff.mp h1).1
        obtain ⟨b, g1, g2⟩ := r'.cells j cs'[j] (by simp [hj'])
        rw [h1] at g1; cases g1
        have ma : a ∈ ca' := List.mem_of_getElem? h1
        have h' : match (Res.ok (Rv.own cs'[j]) (cs'.take cs.length) : Res Rv) with
          | .ok r cs' => ∀ Hf' H' v, Ex Hf Hf' → Rel B ca ss cs' Hf' (vs.map some) H' → RvOk B ca Hf' H' r v → Q v H'
          | .er c cs' => ∀ Hf' H' cls, Ex Hf Hf' → Rel B ca ss cs' Hf' (vs.map some) H' → mg c = some cls → E cls none H'
          | .no => False := by
          have e2 : fin cs.length (.rt (.cel j) cs') = .ok (.own cs'[j]) (cs'.take cs.length) := by
            refine Eq.trans (show fin cs.length (.rt (.cel j) cs') = (if j < cs.length then .ok (.cel j) (cs'.take cs.length) else match cs'[j]? with
              | some o => .ok (.own o) (cs'.take cs.length)
              | none => .no) from rfl) ?_
            rw [if_neg hj, List.getElem?_eq_getElem hj']
          rw [← e2]; exact h
        refine h' Hf' H' _ n.ex rc ⟨a, rfl, g2, r'.off a ma, fun z => ?_, ?_⟩
        · obtain ⟨t, ht⟩ := n.pre
          obtain ⟨i, hi, ei⟩ := List.mem_iff_getElem.mp z
          have e3 : ca'[i]? = some a := by rw [← ht, List.getElem?_append_left hi]; simp [hi, ei]
          have := nd_ix r'.nd h1 e3
          omega
        · cases q : B a with
          | none => rfl
          | some u => exact absurd ma (r'.dis a (by rw [q]; simp)).2
  | er c ρ' cs' =>
    rw [e] at h
    exact fun ca' Hf' σ' H' cls n r' hc => h Hf' H' cls n.ex (r.cut n r') hc
  | bk ρ' cs' => rw [e] at h; exact h.elim
  | ct ρ' cs' => rw [e] at h; exact h.elim
  | no => rw [e] at h; exact h.elim
/-- a def by its mirror, from any frame where nothing is being shown -/
theorem def_okG (Fd : FunD K x qual params body scope dvs kws f fd) (sc : FnScope N ps scope) {g : G} (m : Nat) (hm : N.length = ps.length + m)
    (hbody : ∀ (cdv : Value) (A : Around) (outer : List Env) (s : Shared) (H : Hp) (E : XK), A.guards = some [] → Room k (A.deeper (PyProof.Rows.envOfC qual scope s.heap.objs.size f cdv)) → Takes (BX P w K mg base N qual scope f cdv A outer s H E) (BW E) →
      PassesOwn (model P w) (BX P w K mg base N qual scope f cdv A outer s H E).A (BX P w K mg base N qual scope f cdv A outer s H E).env (BX P w K mg base N qual scope f cdv A outer s H E).xe → DSs (BX P w K mg base N qual scope f cdv A outer s H E) (BW E) body g) :
    FnG P w K mg base (k + 1) f fd ps (spE mg ps.length (runG m g)) :=
  fnG_ok Fd sc (fun vs H Q E h => h.1) fun cdv A outer s H vs Q E hg hr h => body_run m hm (hbody cdv A outer s H E hg hr takesB passesB) h
end
/-! ### the law's end, where nothing is being shown -/
theorem Rel0 {H : Hp} {a : Addr} {ns : List Int} (rd : Rd H a (.lst (ns.map V.int))) : Rel (fun _ => none) [] [.d (.list (ns.map .int))] [] H ([V.ref a].map some) H := by
  have dd : Dds H (ns.map V.int) (ns.map PyData.int) := dds_ints ns
  refine ⟨fun _ _ h => h, rfl, fun i s e => ?_, fun j o e => (by simp at e), rfl, List.nodup_nil, fun b z => (by simp at z), fun b o z => (by cases z), fun b z => absurd rfl z⟩
  cases i with
  | zero => simp at e; subst e; exact .inr ⟨.ref a, rfl, .lst rd dd⟩
  | succ i => simp at e
theorem law_callG {P : Program} {w : World} {K : PySem.W.Frag} {mg mb : Str → Option Value} {k : Nat} {fa a : Addr} {fd : FuncData} {x : Str} {F : List S → M Rv} {s1 : Shared} {vs : List Value} {ns : List Int}
    (KX : K.In s1.heap) (nsG : s1.heap.Ns mainGlobals mg) (nsB : s1.heap.Ns builtinsNs mb) (bl : ∀ x : Str, x ≠ "__name__" → mb x = bootBuiltins x) (lim : s1.heap.NoLimit) (g0 : s1.gens = #[])
    (ga : s1.heap.get? a = some { cls := .type "list", data := .seq vs.toArray }) (hi : IntsAre vs ns) (hz : ns.length ≤ sizeLine) (hr : Room k callerA) (hno : ∀ b o, K.lookup b = some o → o.cls ≠ .type "list")
    (hF : ∀ base : Heap, K.In base → base.Ns mainGlobals mg → FnG P w K mg base k fa fd [x] (spE mg 1 F)) (hb : ∀ (s : Shared) (u : Value), BindsTo s fd ⟨[u], []⟩ [(x, u)])
    (hl : ∃ cs', F [.d (.list (ns.map .int))] [] = .ok (.d (.bool true)) cs') :
    codeAny (model P w) callerA (.call (.ref fa) ⟨[.ref a], []⟩) (fun r s' => r = .ok (.ret (.bool true)) ∧ OldK s1.heap s'.heap ∧ s'.os = s1.os ∧ AllBare s'.gens) s1 := by
  have hka : K.lookup a = none := by
    cases q : K.lookup a with
    | none => rfl
    | some o =>
      have e := KX a o q
      rw [ga] at e
      cases e
      exact absurd rfl (hno a _ q)
  let obj : Obj := { cls := .type "list", data := .seq vs.toArray }
  let H : Hp := fun b => if b = a then some (.frz obj (.lst (ns.map V.int))) else none
  have Ha : H a = some (.frz obj (.lst (ns.map V.int))) := if_pos rfl
  have Hn : ∀ b, b ≠ a → H b = none := fun b z => if_neg z
  have Hs : ∀ b u, H b = some u → b = a ∧ u = .frz obj (.lst (ns.map V.int)) := fun b u z => by
    by_cases c : b = a
    · subst c; rw [Ha] at z; cases z; exact ⟨rfl, rfl⟩
    · rw [Hn b c] at z; cases z
  have okA : HOk P w H s1.heap := fun b u z => by
    obtain ⟨rfl, rfl⟩ := Hs b u z
    exact ⟨ga, by rw [List.length_map]; exact hz, vs, _, vals_ints hi, ga⟩
  have atB : ∀ {b : Addr} {o : Obj}, s1.heap.get? b = some o → b ≠ a → (hidT s1.heap H).get? b = some o := fun e c => hidT_get e (Hn _ c)
  have nsK : ∀ {b : Addr} {m : Str → Option Value}, s1.heap.Ns b m → (hidT s1.heap H).Ns b m := by
    rintro b m ⟨o, es, ep, e, d, r⟩
    refine ⟨o, es, ep, atB e ?_, d, r⟩
    rintro rfl
    rw [ga] at e; cases e
    cases (show Data.seq vs.toArray _ = Data.dict es ep from d)
  have KB : K.In (hidT s1.heap H) := fun b o e => atB (KX b o e) (by rintro rfl; rw [hka] at e; cases e)
  have md : Mod K mg (hidT s1.heap H) := ⟨KB, nsK nsG, ⟨mb, nsK nsB, bl⟩, lim.imp fun mc z => ⟨nsK z.1, z.2⟩⟩
  have e0 : Env0 P w K mg (hidT s1.heap H) callerA [] s1 H := ⟨rfl, md, fun b o e => of_hidT e, Nat.le_of_eq (hidT_size _ _), trivial, fun b z => (by cases z), okA, .of_eq g0⟩
  obtain ⟨cs', el⟩ := hl
  have sp : spE mg 1 F [.ref a] H (fun v _ => v = .bl true) fun _ _ _ => False := by
    refine ⟨rfl, fun _ => none, [], [], H, _, Rel0 (.inr ⟨obj, Ha⟩), ?_⟩
    rw [el]
    intro Hf' H' v _ _ hv
    have hv' : Dd Hf' v (.bool true) := hv
    cases hv'
    rfl
  refine codeAny_mono ((hF _ KB (nsK nsG)).run callerA [] s1 H ⟨[.ref a], []⟩ [.ref a] [.ref a] _ _ rfl hr e0 (hb s1 (.ref a)) (.cons rfl .nil) sp) fun r s2 h => ?_
  cases r with
  | error e =>
    obtain ⟨_, _, _, _, _, _, _, z⟩ := h
    exact absurd z (by first | exact id | simp)
  | ok fl =>
    cases fl with
    | ret u =>
      obtain ⟨v, H2, h1, h2, un, ok2, rv, q⟩ := h
      subst q
      have eu : u = Value.bool true := rv
      subst eu
      refine ⟨rfl, OldK.of_keep fun b o e => ?_, h1, h2⟩
      by_cases c : b = a
      · subst c
        rw [ga] at e; cases e
        exact (ok2 b _ (un.frzs b obj _ Ha)).1
      · exact un.keep b o e (Hn b c) (by intro z; cases z) (by simp)
    | _ => exact False.elim h
theorem law_endG {l : PySem.W.OpenLaw} {n k : Nat} {q : Program} {loose : List Str} {d : DefRec} {fa : List He.Fa} {fn : List He.DefD} {fb : PySem.W.Frag → Bool} {m : Nat} {XP : (Str → Option Value) → Heap → Prop} {x : Str} {F : PySem.W.Frag → List S → M Rv}
    (hn : l.most = some n) (hn2 : n ≤ sizeLine) (hdf : d.params.defaults = []) (hr : Room k callerA)
    (hF : ∀ (w : World) (mg : Str → Option Value) (h : Heap) (K : PySem.W.Frag), K.In h → He.SaysD fa fn K → fb K = true → h.Ns mainGlobals mg → ∃ fd : FuncData, mg d.name = some (.ref (He.ga K d.name)) ∧ (∀ (s : Shared) (u : Value), BindsTo s fd ⟨[u], []⟩ [(x, u)]) ∧
      ∀ base : Heap, K.In base → base.Ns mainGlobals mg → FnG l.prog w K mg base k (He.ga K d.name) fd [x] (spE mg 1 (F K)))
    (hl : ∀ (K : PySem.W.Frag) (ns : List Int), ns.length ≤ n → ∃ cs', F K [.d (.list (ns.map .int))] [] = .ok (.d (.bool true)) cs') :
    PySem.W.WalkO q loose XP (hookL m fa fn fb).says l.row.toRowW d [] (fun f vs => PySem.call f vs) := by
  refine Att.attach_call hn hdf fun w s0 s1 mg mb ad o pm cd doc a vs ns G Y ho hd hcd hmg hobj hints hlen hg => ?_
  obtain ⟨K, KX, c, cb, hno⟩ := Y
  obtain ⟨fd, hgf, hb, hF'⟩ := hF w mg s1.heap K KX c cb G.T.g
  cases hmg.symm.trans hgf
  exact law_callG KX G.T.g G.T.b G.T.builtins G.T.nolimit hg hobj hints (Nat.le_trans hlen hn2) hr hno hF' hb (hl K ns hlen)
end Dn
namespace Dn
open PySem L2
theorem hu200 {k : Nat} {A : Around} (r : Room k A) : A.units + 200 < cLine := by have := r.un; omega
end Dn

set_option Elab.async false
set_option linter.all false
set_option maxRecDepth 100000
set_option maxHeartbeats 1000000
/-! Dn16: several names stored at once; dicts as cells. -/
namespace Dn
open PySem L2
/-! ### several names at once -/
def sTgt (g : D → List S → Option (List S)) (f : List S → M S) : G := fun ρ => stp (f ρ) (fun s cs => match s with
  | .d x => match g x ρ with
    | some ρ' => .nx ρ' cs
    | none => .no
  | _ => .no) ρ
def sPar (i j : Nat) (fa fb : List S → M S) : G := fun ρ => stp (bnd (fa ρ) fun a => bnd (fb ρ) fun b => ret (a, b)) (fun p cs => .nx ((ρ.set i p.1).set j p.2) cs) ρ
section
variable {X : Cx} {W : WX} {a b tg : Expr} {f fa fb : List S → M S} {g : D → List S → Option (List S)} {pos : Pos}
theorem dst_tgt (ha : DE X W a f) (hg : DG X tg g) (hs : swapsWithSole [tg] a pos.line X.env = pure false := by rfl) (hw : swappedStores [tg] a X.env = pure none := by rfl)
    (h1 : (assignEach [tg] X.env).map (·.2) = [assign tg X.env] := by rfl) : DSt X W (.Assign [tg] a pos) (sTgt g f) := by
  obtain ⟨t, p, k⟩ := ha
  obtain ⟨u, pg, kg⟩ := hg
  refine ⟨_, ps_asg p pg hs hw h1, fun B ca ρ cs Hf σ H En r hg => ?_⟩
  refine k B ca ρ cs Hf σ H _ r (hg.stp_.mono fun ca1 Hf1 H1 cs1 s n1 r1 h1 v hv => ?_)
  cases s with
  | d x =>
    have h2 : GO X W B ca1 Hf1 En (match g x ρ with
      | some ρ' => Out.nx ρ' cs1
      | none => .no) := h1
    cases e : g x ρ with
    | none => rw [e] at h2; exact h2.elim
    | some ρ' =>
      rw [e] at h2
      exact kg B ca1 ρ ρ' cs1 Hf1 σ H1 v x _ r1 hv e fun σ' r' => h2.nx_ r'
  | _ => exact h1.elim
theorem dst_par (i j : Nat) {x y : Str} {px py pt : Pos} {kt k2 pt2} (hN : X.N.Nodup) (ha : DE X W a fa) (hb : DE X W b fb) (hi : X.N[i]? = some x := by rfl) (hj : X.N[j]? = some y := by rfl) (hij : i ≠ j := by decide)
    (hx : X.env.scope.names.lookup x = some .local := by rfl) (hy : X.env.scope.names.lookup y = some .local := by rfl) (hc : X.calm = true := by rfl)
    (hw : swappedStores [.Tuple [.Name x px, .Name y py] kt pt] (.Tuple [a, b] k2 pt2) X.env = pure (some [x, y]) := by rfl)
    (hs : swapsWithSole [.Tuple [.Name x px, .Name y py] kt pt] (.Tuple [a, b] k2 pt2) pos.line X.env = pure false := by rfl)
    (na : starEach [a, b] X.env = (false, eval a X.env) :: starEach [b] X.env := by rfl) (nb : starEach [b] X.env = (false, eval b X.env) :: starEach [] X.env := by rfl) :
    DSt X W (.Assign [.Tuple [.Name x px, .Name y py] kt pt] (.Tuple [a, b] k2 pt2) pos) (sPar i j fa fb) := by
  obtain ⟨t, p, k⟩ := ha
  obtain ⟨u, q, l⟩ := hb
  refine ⟨_, ps_par hc hN hi hj hij hx hy (pa_cons p (pa_cons q pa_nil nb) na) hw hs, fun B ca ρ cs Hf σ H En r hg => ?_⟩
  refine k B ca ρ cs Hf σ H _ r (hg.stp_.bind.mono fun ca1 Hf1 H1 cs1 s1 n1 r1 h1 v hv => ?_)
  refine l B ca1 ρ cs1 Hf1 σ H1 _ r1 (h1.bind.mono fun ca2 Hf2 H2 cs2 s2 n2 r2 h2 w hw => ?_)
  have h3 : GO X W B ca2 Hf2 En (Out.nx ((ρ.set i s1).set j s2) cs2) := h2.ret_ r2
  exact ⟨v, w, rfl, h3.nx_ ((r2.set i (hv.nx n2)).set j hw)⟩
end
/-! ### dicts -/
def dvK (kvs : List (Key × D)) (k : Key) : Option D := (kvs.find? fun p => decide (p.1 = k)).map (·.2)
def dpK (kvs : List (Key × D)) (k : Key) (x : D) : List (Key × D) := if (kvs.any fun p => decide (p.1 = k)) = true then kvs.map (fun p => if p.1 = k then (p.1, x) else p) else kvs ++ [(k, x)]
def dicM (s : S) : M (Nat × List (Key × D)) := fun cs => match s with
  | .cel j => match cs[j]? with
    | some (.dK kvs) => .ok (j, kvs) cs
    | _ => .no
  | _ => .no
def eDic0 (_ : List S) : M Rv := ret (.own (.dK []))
def keyM (s : S) : M Key := match s with
  | .d x => ofO (kyD x)
  | _ => stuck
def eIxK (fo fi : List S → M S) (ρ : List S) : M S := bnd (fo ρ) fun o => bnd (fi ρ) fun i => bnd (dicM o) fun p => bnd (keyM i) fun k => bnd (ofO (dvK p.2 k)) fun d => ret (.d d)
def eGet2 (fo fi fx : List S → M S) (ρ : List S) : M S := bnd (fo ρ) fun o => bnd (dicM o) fun _ => bnd (fi ρ) fun i => bnd (fx ρ) fun x => bnd (dicM o) fun p => bnd (keyM i) fun k => match x with
  | .d z => ret (.d ((dvK p.2 k).getD z))
  | _ => stuck
def eGet1 (fo fi : List S → M S) (ρ : List S) : M S := bnd (fo ρ) fun o => bnd (dicM o) fun _ => bnd (fi ρ) fun i => bnd (dicM o) fun p => bnd (keyM i) fun k => ret (.d ((dvK p.2 k).getD .none))
def cInK (neg : Bool) (fi fo : List S → M S) (ρ : List S) : M Bool := bnd (fi ρ) fun i => bnd (fo ρ) fun o => bnd (dicM o) fun p => bnd (keyM i) fun k => ret (if neg = true then !(dvK p.2 k).isSome else (dvK p.2 k).isSome)
def sSubK (fo fi fe : List S → M S) : G := fun ρ => stp (bnd (fe ρ) fun e => bnd (fo ρ) fun o => bnd (fi ρ) fun i => bnd (dicM o) fun p => bnd (keyM i) fun k => match e with
  | .d x => if p.2.length < sizeLine then putM p.1 (.dK (dpK p.2 k x)) else stuck
  | _ => stuck) (fun _ cs => .nx ρ cs) ρ
def eLenK (fo : List S → M S) (ρ : List S) : M S := bnd (fo ρ) fun o => bnd (dicM o) fun p => ret (.d (.int p.2.length))
/-- sorted(d), the keys texts -/
def eSortK (fo : List S → M S) (ρ : List S) : M S := bnd (fo ρ) fun o => bnd (dicM o) fun p => match sortKT (p.2.map (·.1)) with
  | some ks => if ks.length < 64 then ret (.d (.list ((sortT ks).map .str))) else stuck
  | none => stuck
abbrev PrK (Hf : Hp) : List (Key × V) → List (Key × D) → Prop := Paired (fun (p : Key × V) (q : Key × D) => p.1 = q.1 ∧ Dd Hf p.2 q.2)
theorem prK_len {Hf : Hp} {ws : List (Key × V)} {kvs : List (Key × D)} (h : PrK Hf ws kvs) : ws.length = kvs.length := Paired.length h
theorem prK_keys {Hf : Hp} : ∀ {ws : List (Key × V)} {kvs : List (Key × D)}, PrK Hf ws kvs → ws.map (·.1) = kvs.map (·.1)
  | _, _, .nil => rfl
  | _, _, .cons h t => by rw [List.map_cons, List.map_cons, h.1, prK_keys t]
theorem prK_val {Hf : Hp} (k : Key) : ∀ {ws : List (Key × V)} {kvs : List (Key × D)}, PrK Hf ws kvs → (valV ws k = none ∧ dvK kvs k = none) ∨ ∃ v d, valV ws k = some v ∧ dvK kvs k = some d ∧ Dd Hf v d
  | _, _, .nil => .inl ⟨rfl, rfl⟩
  | (k1, v1) :: ws, (k2, d2) :: kvs, .cons h t => by
    have h2 : Dd Hf v1 d2 := h.2
    have h1' : k1 = k2 := h.1
    subst h1'
    by_cases e : k1 = k
    · exact .inr ⟨v1, d2, by simp [valV, e], by simp [dvK, e], h2⟩
    · have ih := prK_val k t
      simpa [valV, dvK, List.find?_cons, e] using ih
theorem prK_map {Hf : Hp} (k : Key) {v : V} {d : D} (hd : Dd Hf v d) : ∀ {ws : List (Key × V)} {kvs : List (Key × D)}, PrK Hf ws kvs → PrK Hf (ws.map fun kv => if kv.1 = k then (kv.1, v) else kv) (kvs.map fun p => if p.1 = k then (p.1, d) else p)
  | _, _, .nil => .nil
  | p :: ws, q :: kvs, .cons h t => by
    rw [List.map_cons, List.map_cons]
    refine .cons ?_ (prK_map k hd t)
    by_cases e : p.1 = k
    · have e' : q.1 = k := h.1 ▸ e
      rw [if_pos e, if_pos e']; exact ⟨h.1, hd⟩
    · have e' : ¬ q.1 = k := h.1 ▸ e
      rw [if_neg e, if_neg e']; exact h
theorem prK_app {Hf : Hp} (k : Key) {v : V} {d : D} (hd : Dd Hf v d) : ∀ {ws : List (Key × V)} {kvs : List (Key × D)}, PrK Hf ws kvs → PrK Hf (ws ++ [(k, v)]) (kvs ++ [(k, d)])
  | _, _, .nil => .cons ⟨rfl, hd⟩ .nil
  | _ :: _, _ :: _, .cons h t => .cons h (prK_app k hd t)
theorem prK_put {Hf : Hp} (k : Key) {v : V} {d : D} {ws : List (Key × V)} {kvs : List (Key × D)} (h : PrK Hf ws kvs) (hd : Dd Hf v d) : PrK Hf (putK ws k v) (dpK kvs k d) := by
  have keys := prK_keys h
  have any : (ws.any fun kv => decide (kv.1 = k)) = (kvs.any fun kv => decide (kv.1 = k)) := by
    have e1 : (ws.any fun kv => decide (kv.1 = k)) = (ws.map (·.1)).any fun x => decide (x = k) := by rw [List.any_map]; rfl
    have e2 : (kvs.any fun kv => decide (kv.1 = k)) = (kvs.map (·.1)).any fun x => decide (x = k) := by rw [List.any_map]; rfl
    rw [e1, e2, keys]
  unfold dpK putK
  rw [any]
  split
  · exact prK_map k hd h
  · exact prK_app k hd h
theorem ky_v {Hf : Hp} {v : V} {x : D} {k : Key} (h : Dd Hf v x) (e : kyD x = some k) : v = kV k := by
  cases x with
  | int i => cases h; cases e; rfl
  | str i => cases h; cases e; rfl
  | _ => cases e
section
variable {X : Cx} {W : WX} {B : Hp} {ca : List Addr} {Hf H : Hp} {ρ : List S} {σ : L2.St} {cs : Store} {β : Type} {P : List Addr → Hp → Hp → Store → β → Prop}
theorem dicM_ {a : S} {k : Nat × List (Key × D) → M β} (h : Gs X W B ca Hf ρ σ (bnd (dicM a) k cs) P) : ∃ j kvs, a = .cel j ∧ cs[j]? = some (.dK kvs) ∧ Gs X W B ca Hf ρ σ (k (j, kvs) cs) P := by
  unfold bnd dicM at h
  cases a with
  | cel j =>
    cases e : cs[j]? with
    | none => simp only [e] at h; exact h.elim
    | some o =>
      cases o with
      | dK kvs => simp only [e] at h; exact ⟨j, kvs, rfl, e, h⟩
      | lst _ => simp only [e] at h; exact h.elim
  | _ => exact h.elim
theorem keyM_ {a : S} {k : Key → M β} (h : Gs X W B ca Hf ρ σ (bnd (keyM a) k cs) P) : ∃ x y, a = .d x ∧ kyD x = some y ∧ Gs X W B ca Hf ρ σ (k y cs) P := by
  cases a with
  | d x =>
    have h' : Gs X W B ca Hf ρ σ (bnd (ofO (kyD x)) k cs) P := h
    obtain ⟨y, e, h2⟩ := ofOb_ h'
    exact ⟨x, y, rfl, e, h2⟩
  | _ => exact h.elim
theorem ty_dic {j : Nat} {kvs : List (Key × D)} {x : V} (r : Rel B ca ρ cs Hf σ H) (hx : SvOk ca Hf (.cel j) x) (e : cs[j]? = some (.dK kvs)) : ∃ l ws, x = .ref l ∧ ca[j]? = some l ∧ H l = some (.dK ws) ∧ PrK Hf ws kvs := by
  obtain ⟨l, h1, rfl⟩ := hx
  obtain ⟨a, g0, g⟩ := r.cells j _ e
  rw [h1] at g0; cases g0
  obtain ⟨ws, g1, g2⟩ := g
  exact ⟨l, ws, rfl, h1, g1, g2⟩
end
section
variable {X : Cx} {W : WX} {o i e f : Expr} {fo fi fe fx : List S → M S} {pos pos' apos cpos p : Pos}
theorem do_dic0 : DO X W (.Dict [] [] pos) eDic0 := by
  refine ⟨_, pe_dnewK, fun B ca ρ cs Hf σ H Q r h => ?_⟩
  intro p hp
  obtain ⟨m1, m2, m3⟩ := r.newIn hp
  have h' := h.ret_ r
  have h2 : Gs X W B ca Hf ρ σ (ret (.own (.dK [])) cs) (fun ca' Hf' H' _ rv => ∀ v, RvOk B ca' Hf' H' rv v → Q v H') := h
  exact h2 ca Hf _ Nx.refl (r.grow (ex_new hp)) _ ⟨p, rfl, ⟨[], upd_same, .nil⟩, m1, m2, m3⟩
theorem hu1 {k : Nat} {A : Around} (r : Room k A) : A.units + 1 < cLine := by have := r.un; omega
theorem de_ixK (hu : X.A.units + 1 < cLine) (ho : DE X W o fo) (hi : DE X W i fi) (hs : NoSl i := by exact fun _ _ => rfl) : DE X W (.Subscript o i pos) (eIxK fo fi) := by
  obtain ⟨to, po, ko⟩ := ho
  obtain ⟨ti, pi, ki⟩ := hi
  refine ⟨_, pe_dget hu po pi hs, fun B ca ρ cs Hf σ H Q r h => ?_⟩
  refine ko B ca ρ cs Hf σ H _ r (h.bind.mono fun ca1 Hf1 H1 cs1 s1 n1 r1 h1 x hx => ?_)
  refine ki B ca1 ρ cs1 Hf1 σ H1 _ r1 (h1.bind.mono fun ca2 Hf2 H2 cs2 s2 n2 r2 h2 y hy => ?_)
  obtain ⟨j, kvs, rfl, e1, h3⟩ := dicM_ h2
  obtain ⟨z, k, rfl, e2, h4⟩ := keyM_ h3
  obtain ⟨d, e3, h5⟩ := ofOb_ h4
  obtain ⟨l, ws, rfl, c1, c2, c3⟩ := ty_dic r2 (hx.nx n2) e1
  have ey := ky_v hy e2
  subst ey
  rcases prK_val k c3 with ⟨_, q⟩ | ⟨v, d', q1, q2, q3⟩
  · rw [q] at e3; cases e3
  · rw [q2] at e3; cases e3
    exact ⟨l, v, rfl, q1 ▸ DGet.k c2, h5.ret_ r2 v q3⟩
theorem de_get2 (hu : X.A.units + 1 < cLine) (ho : DE X W o fo) (he : DE X W e fi) (hf : DE X W f fx) (m : M2 X o "get" apos e f cpos := by exact ⟨rfl, rfl, rfl, rfl⟩) : DE X W (.Call (.Attribute o "get" apos) [e, f] [] cpos) (eGet2 fo fi fx) := by
  obtain ⟨to, po, ko⟩ := ho
  obtain ⟨ti, pi, ki⟩ := he
  obtain ⟨tx, px, kx⟩ := hf
  refine ⟨_, pe_dget2 hu po pi px m, fun B ca ρ cs Hf σ H Q r h => ?_⟩
  refine ko B ca ρ cs Hf σ H _ r (h.bind.mono fun ca1 Hf1 H1 cs1 s1 n1 r1 h1 x hx => ?_)
  obtain ⟨j, kvs, rfl, e1, h2⟩ := dicM_ h1
  obtain ⟨l, ws, rfl, c1, c2, c3⟩ := ty_dic r1 hx e1
  refine ⟨l, rfl, .inl ⟨ws, .inl c2⟩, ?_⟩
  refine ki B ca1 ρ cs1 Hf1 σ H1 _ r1 (h2.bind.mono fun ca2 Hf2 H2 cs2 s2 n2 r2 h3 y hy => ?_)
  refine kx B ca2 ρ cs2 Hf2 σ H2 _ r2 (h3.bind.mono fun ca3 Hf3 H3 cs3 s3 n3 r3 h4 w hw => ?_)
  obtain ⟨j', kvs', ej, e1', h5⟩ := dicM_ h4
  cases ej
  obtain ⟨z, k, rfl, e2, h6⟩ := keyM_ h5
  obtain ⟨l', ws', el, c1', c2', c3'⟩ := ty_dic r3 (hx.nx (n2.trans n3)) e1'
  cases el
  have ey := ky_v hy e2
  subst ey
  cases s3 with
  | d z =>
    have h7 := h6.ret_ r3
    refine ⟨valV ws' k, DGet.k c2', ?_⟩
    rcases prK_val k c3' with ⟨q1, q2⟩ | ⟨v, d', q1, q2, q3⟩
    · rw [q1]
      rw [q2] at h7
      exact h7 w hw
    · rw [q1]
      rw [q2] at h7
      exact h7 v q3
  | _ => exact h6.elim
theorem de_get1 (hu : X.A.units + 1 < cLine) (ho : DE X W o fo) (he : DE X W e fi) (m : M1 X o "get" apos e cpos := by exact ⟨rfl, rfl, rfl, rfl⟩) : DE X W (.Call (.Attribute o "get" apos) [e] [] cpos) (eGet1 fo fi) := by
  obtain ⟨to, po, ko⟩ := ho
  obtain ⟨ti, pi, ki⟩ := he
  refine ⟨_, pe_dget1 hu po pi m, fun B ca ρ cs Hf σ H Q r h => ?_⟩
  refine ko B ca ρ cs Hf σ H _ r (h.bind.mono fun ca1 Hf1 H1 cs1 s1 n1 r1 h1 x hx => ?_)
  obtain ⟨j, kvs, rfl, e1, h2⟩ := dicM_ h1
  obtain ⟨l, ws, rfl, c1, c2, c3⟩ := ty_dic r1 hx e1
  refine ⟨l, rfl, .inl ⟨ws, .inl c2⟩, ?_⟩
  refine ki B ca1 ρ cs1 Hf1 σ H1 _ r1 (h2.bind.mono fun ca2 Hf2 H2 cs2 s2 n2 r2 h3 y hy => ?_)
  obtain ⟨j', kvs', ej, e1', h5⟩ := dicM_ h3
  cases ej
  obtain ⟨z, k, rfl, e2, h6⟩ := keyM_ h5
  obtain ⟨l', ws', el, c1', c2', c3'⟩ := ty_dic r2 (hx.nx n2) e1'
  cases el
  have ey := ky_v hy e2
  subst ey
  have h7 := h6.ret_ r2
  refine ⟨valV ws' k, DGet.k c2', ?_⟩
  rcases prK_val k c3' with ⟨q1, q2⟩ | ⟨v, d', q1, q2, q3⟩
  · rw [q1]
    rw [q2] at h7
    exact h7 .non .non
  · rw [q1]
    rw [q2] at h7
    exact h7 v q3
theorem dst_subK (hu : X.A.units + 1 < cLine) (he : DE X W e fe) (ho : DE X W o fo) (hi : DE X W i fi) (hs : swapsWith e (some (.Subscript o i pos')) pos.line X.env = pure false := by rfl) : DSt X W (.Assign [.Subscript o i pos'] e pos) (sSubK fo fi fe) := by
  obtain ⟨te, pe, ke⟩ := he
  obtain ⟨to, po, ko⟩ := ho
  obtain ⟨ti, pi, ki⟩ := hi
  refine ⟨_, ps_dput hu po pi pe hs, fun B ca ρ cs Hf σ H En r hg => ?_⟩
  refine ke B ca ρ cs Hf σ H _ r (hg.stp_.bind.mono fun ca1 Hf1 H1 cs1 s1 n1 r1 h1 v hv => ?_)
  refine ko B ca1 ρ cs1 Hf1 σ H1 _ r1 (h1.bind.mono fun ca2 Hf2 H2 cs2 s2 n2 r2 h2 x hx => ?_)
  refine ki B ca2 ρ cs2 Hf2 σ H2 _ r2 (h2.bind.mono fun ca3 Hf3 H3 cs3 s3 n3 r3 h3 y hy => ?_)
  obtain ⟨j, kvs, rfl, e1, h4⟩ := dicM_ h3
  obtain ⟨z, k, rfl, e2, h5⟩ := keyM_ h4
  obtain ⟨l, ws, rfl, c1, c2, c3⟩ := ty_dic r3 (hx.nx n3) e1
  have ey := ky_v hy e2
  subst ey
  cases s1 with
  | d z =>
    have h6 : Gs X W B ca3 Hf3 ρ σ ((if kvs.length < sizeLine then putM j (.dK (dpK kvs k z)) else stuck) cs3) _ := h5
    split at h6
    · rename_i hl
      have hz : Dd Hf3 v z := dp_ex n3.ex (dp_ex n2.ex hv)
      refine ⟨l, _, rfl, DPut.k c2 (by rw [prK_len c3]; exact hl), ?_⟩
      have r4 : Rel B ca3 ρ (cs3.set j (.dK (dpK kvs k z))) Hf3 σ (upd H3 l (.dK (putK ws k v))) := r3.write c1 ⟨_, upd_same, prK_put k c3 hz⟩
      exact GO.nx_ (h6 ca3 Hf3 _ Nx.refl r4) r4
    · exact h6.elim
  | _ => exact h5.elim
theorem de_lenK (ho : DE X W o fo) (hm : X.mg "len" = none) (hg : Gl X "len" := by rfl) (na : starEach [o] X.env = (false, eval o X.env) :: starEach [] X.env := by rfl) : DE X W (.Call (.Name "len" p) [o] [] pos) (eLenK fo) := by
  obtain ⟨to, po, ko⟩ := ho
  have hc : CallR X (.builtin "len") (fun xs H Q => ∃ a kvs, xs = [V.ref a] ∧ Rd H a (.dK kvs) ∧ Q (.int kvs.length) H) := by
    intro pins s σ H xs us Q I r ⟨a, kvs, ex, hd, q⟩
    subst ex
    rw [Vals.ref1 r]
    exact d_len I hd fun t s' I' => ⟨.int kvs.length, H, I', ⟨t, rfl⟩, q⟩
  refine ⟨_, pe_callB hc hg hm PySem.boot_len (pa_cons po pa_nil na) (by decide) (by decide) na (by rfl), fun B ca ρ cs Hf σ H Q r h => ?_⟩
  refine ko B ca ρ cs Hf σ H _ r (h.bind.mono fun ca1 Hf1 H1 cs1 s1 n1 r1 h1 x hx => ?_)
  obtain ⟨j, kvs, rfl, e1, h2⟩ := dicM_ h1
  obtain ⟨l, ws, rfl, c1, c2, c3⟩ := ty_dic r1 hx e1
  refine ⟨l, ws, rfl, .inl c2, ?_⟩
  rw [prK_len c3]
  exact h2.ret_ r1 _ (.int _)
theorem de_sortK (ho : DE X W o fo) (hm : X.mg "sorted" = none) (hc : X.calm = true := by rfl) (hg : Gl X "sorted" := by rfl) (na : starEach [o] X.env = (false, eval o X.env) :: starEach [] X.env := by rfl) : DE X W (.Call (.Name "sorted" p) [o] [] pos) (eSortK fo) := by
  obtain ⟨to, po, ko⟩ := ho
  refine ⟨_, pe_callB (call_sortedD hc) hg hm (by decide +kernel : bootBuiltins "sorted" = some (.builtin "sorted")) (pa_cons po pa_nil na) (by decide) (by decide) na (by rfl), fun B ca ρ cs Hf σ H Q r h => ?_⟩
  refine ko B ca ρ cs Hf σ H _ r (h.bind.mono fun ca1 Hf1 H1 cs1 s1 n1 r1 h1 x hx => ?_)
  obtain ⟨j, kvs, rfl, e1, h2⟩ := dicM_ h1
  obtain ⟨l, ws, rfl, c1, c2, c3⟩ := ty_dic r1 hx e1
  have h3 : Gs X W B ca1 Hf1 ρ σ ((match sortKT (kvs.map (fun q : Key × D => q.1)) with
    | some ks => if ks.length < 64 then ret (S.d (.list ((sortT ks).map .str))) else stuck
    | none => stuck) cs1) (fun ca' Hf' H' _ s => ∀ v, SvOk ca' Hf' s v → Q v H') := h2
  cases ek : sortKT (kvs.map (fun q : Key × D => q.1)) with
  | none => rw [ek] at h3; exact h3.elim
  | some ks =>
    rw [ek] at h3
    simp only at h3
    split at h3
    · rename_i hl
      refine ⟨l, ws, ks, rfl, .inl c2, by rw [prK_keys c3]; exact sortKT_eq ek, hl, fun ys p hp hs hn => ?_⟩
      have ez := eq_sortT hp (up_of_sortedS ys hs)
      subst ez
      have g := Gw.new (o := .lst ((sortT ks).map V.str)) r1.ext hn
      obtain ⟨r3, n3⟩ := r1.gw g
      exact h3 ca1 _ _ n3 r3 _ (show Dd _ _ _ from .lst (.inl upd_same) (dds_txts _))
    · exact h3.elim
end
end Dn

set_option Elab.async false
set_option linter.all false
set_option maxRecDepth 100000
set_option maxHeartbeats 1000000
/-! Dn17: three names at once, lists turned about, is of truth values. -/
namespace Dn
open PySem L2
def sPar3 (i j l : Nat) (fa fb fc : List S → M S) : G := fun ρ => stp (bnd (fa ρ) fun a => bnd (fb ρ) fun b => bnd (fc ρ) fun c => ret (a, b, c)) (fun p cs => .nx (((ρ.set i p.1).set j p.2.1).set l p.2.2) cs) ρ
def revG : List D → Option D
  | [.list xs] => if xs.length ≤ sizeLine then some (.list xs.reverse) else none
  | _ => none
def isBD (x y : D) : Option Bool := match x, y with
  | .bool a, .bool b => some (decide (a = b))
  | _, _ => none
def isNBD (x y : D) : Option Bool := (isBD x y).map (!·)
theorem dds_rev {Hf : Hp} : ∀ {vs : List V} {xs : List D}, Dds Hf vs xs → Dds Hf vs.reverse xs.reverse
  | _, _, .nil => .nil
  | _, _, .cons h t => by
    rw [List.reverse_cons, List.reverse_cons]
    exact dps_app (dds_rev t) (.cons h .nil)
section
variable {X : Cx} {W : WX} {a b c e : Expr} {fa fb fc : List S → M S} {pos : Pos}
theorem dst_par3 (i j l : Nat) {x y z : Str} {px py pz pt : Pos} {kt k2 pt2} (hN : X.N.Nodup) (ha : DE X W a fa) (hb : DE X W b fb) (hcc : DE X W c fc) (hi : X.N[i]? = some x := by rfl) (hj : X.N[j]? = some y := by rfl) (hl : X.N[l]? = some z := by rfl) (hij : i ≠ j := by decide) (hil : i ≠ l := by decide) (hjl : j ≠ l := by decide)
    (hx : X.env.scope.names.lookup x = some .local := by rfl) (hy : X.env.scope.names.lookup y = some .local := by rfl) (hz : X.env.scope.names.lookup z = some .local := by rfl) (hc : X.calm = true := by rfl)
    (hw : swappedStores [.Tuple [.Name x px, .Name y py, .Name z pz] kt pt] (.Tuple [a, b, c] k2 pt2) X.env = pure (some [x, y, z]) := by rfl)
    (hs : swapsWithSole [.Tuple [.Name x px, .Name y py, .Name z pz] kt pt] (.Tuple [a, b, c] k2 pt2) pos.line X.env = pure false := by rfl)
    (na : starEach [a, b, c] X.env = (false, eval a X.env) :: starEach [b, c] X.env := by rfl) (nb : starEach [b, c] X.env = (false, eval b X.env) :: starEach [c] X.env := by rfl) (nc : starEach [c] X.env = (false, eval c X.env) :: starEach [] X.env := by rfl) :
    DSt X W (.Assign [.Tuple [.Name x px, .Name y py, .Name z pz] kt pt] (.Tuple [a, b, c] k2 pt2) pos) (sPar3 i j l fa fb fc) := by
  obtain ⟨t, p, k⟩ := ha
  obtain ⟨u, q, m⟩ := hb
  obtain ⟨u', q', m'⟩ := hcc
  refine ⟨_, ps_par3 hc hN hi hj hl hij hil hjl hx hy hz (pa_cons p (pa_cons q (pa_cons q' pa_nil nc) nb) na) hw hs, fun B ca ρ cs Hf σ H En r hg => ?_⟩
  refine k B ca ρ cs Hf σ H _ r (hg.stp_.bind.mono fun ca1 Hf1 H1 cs1 s1 n1 r1 h1 v hv => ?_)
  refine m B ca1 ρ cs1 Hf1 σ H1 _ r1 (h1.bind.mono fun ca2 Hf2 H2 cs2 s2 n2 r2 h2 w hw' => ?_)
  refine m' B ca2 ρ cs2 Hf2 σ H2 _ r2 (h2.bind.mono fun ca3 Hf3 H3 cs3 s3 n3 r3 h3 w3 hw3 => ?_)
  have h4 : GO X W B ca3 Hf3 En (Out.nx (((ρ.set i s1).set j s2).set l s3) cs3) := h3.ret_ r3
  exact ⟨v, w, w3, rfl, h4.nx_ (((r3.set i (hv.nx (n2.trans n3))).set j (hw'.nx n3)).set l hw3)⟩
theorem de_rev {k : Nat} {p1 p2 p3 : Pos} (ha : DE X W e fa) : DE X W (.Subscript e (.Slice none none (some (.UnaryOp .USub (.Constant (.int 1) k p1) p2)) p3) pos) (eCd revG (aCons fa aNil)) := by
  obtain ⟨t, pr, kk⟩ := ha
  refine ⟨_, pe_revL pr, fun B ca ρ cs Hf σ H Q r h => ?_⟩
  refine kk B ca ρ cs Hf σ H _ r (h.bind.bind.mono fun ca1 Hf1 H1 cs1 s n1 r1 h1 v hv => ?_)
  have h2 : Gs X W B ca1 Hf1 ρ σ (bnd (vwsM [s]) (fun ds => bnd (ofO (revG ds)) fun d => ret (.d d)) cs1) (fun ca' Hf' H' _ s => ∀ v, SvOk ca' Hf' s v → Q v H') := (h1.ret_ r1)
  obtain ⟨ds, e1, h3⟩ := vwsM_ h2
  obtain ⟨d, e2, h4⟩ := ofOb_ h3
  have lv := vws_ok r1 (SvsOk.cons hv .nil) e1
  match ds, e2, lv with
  | [x], e2, lv =>
    cases x with
    | list xs =>
      obtain ⟨l, vs, rfl, q1, q2⟩ := lv.1.lst
      have e2' : (if xs.length ≤ sizeLine then some (PyData.list xs.reverse) else none) = some d := e2
      split at e2'
      · rename_i hz
        cases e2'
        refine ⟨l, vs, rfl, .inl q1, fun p hp => ?_⟩
        have g := Gw.new (o := .lst vs.reverse) r1.ext hp
        obtain ⟨r3, n3⟩ := r1.gw g
        exact h4 ca1 _ _ n3 r3 _ (show Dd _ _ _ from .lst (.inl upd_same) (dps_ex n3.ex (dds_rev q2)))
      · cases e2'
    | _ => cases e2
  | [], e2, lv => exact absurd e2 (by simp [revG])
  | _ :: _ :: _, e2, lv => exact absurd e2 (by simp [revG])
end
end Dn

set_option Elab.async false
set_option linter.all false
set_option maxRecDepth 100000
set_option maxHeartbeats 1000000
/-! Dn18: calls of defs that take nothing. -/
namespace Dn
open PySem L2
section
variable {X : Cx} {W : WX} {k : Nat} {f : Addr} {fd : FuncData} {x : Str} {p pos : Pos} {F : List S → M Rv}
theorem do_f0 (h : Okf X.prog X.w X.K X.mg X.base k x [] F) (hr : Room k X.A) (tk : Takes X W) (hg : Gl X x := by rfl) (hdb : (x == ("__debug__" : Str)) = false := by decide) : DO X W (.Call (.Name x p) [] [] pos) (eCall F aNil) := by
  obtain ⟨f, fd, hm, _, Fk, hb, hk⟩ := h
  have pe : PE X (.Call (.Name x p) [] [] pos) (tCallS (spE X.mg ([] : List Str).length F) (WE W) tNil) := by
    refine ⟨fun pins s σ H Q I h => ?_⟩
    refine wpAny_Call_Name_kw (ld_glob I hg hm ?_ hdb)
    exact PySem.W.callWith_K0 I.kIn hk (run_fnS (us := []) Fk hr hb (passAt tk σ) I .nil h)
  refine ⟨_, pe, fun B ca ρ cs Hf σ H Q r h => ?_⟩
  have e1 : eCall F aNil ρ cs = callP F [] cs := rfl
  rw [e1] at h
  exact callP_run (vs := []) r rfl .nil h
end
end Dn

set_option Elab.async false
set_option linter.all false
set_option maxRecDepth 100000
set_option maxHeartbeats 1000000
/-! Dn19: calls of defs that look at cells, and tell what holds no list. -/
namespace Dn
open PySem L2
mutual
/-- no list stands in it -/
def nlD : D → Bool
  | .list _ => false
  | .tuple xs => nlDs xs
  | .dict _ => false
  | _ => true
def nlDs : List D → Bool
  | [] => true
  | x :: xs => nlD x && nlDs xs
end
/-- cells are seen as data -/
def seeS (cs : Store) : List S → Option (List S)
  | [] => some []
  | .cel j :: r => match cs[j]? with
    | some (.lst xs) => (seeS cs r).map (.d (.list xs) :: ·)
    | _ => none
  | s :: r => (seeS cs r).map (s :: ·)
def callV (F : List S → M Rv) (ss : List S) : M Rv := fun cs => match seeS cs ss with
  | some tt => (match F tt [] with
    | .ok (.d x) _ => if nlD x = true then .ok (.d x) cs else .no
    | .ok (.own (.lst xs)) _ => if nlDs xs = true then .ok (.own (.lst xs)) cs else .no
    | .er c _ => .er c cs
    | _ => .no)
  | none => .no
def eCallV (F : List S → M Rv) (g : List S → M (List S)) (ρ : List S) : M Rv := bnd (g ρ) (callV F)
/-- the addresses of the cells among them -/
def adS (ca : List Addr) : List S → List Addr
  | [] => []
  | .cel j :: r => match ca[j]? with
    | some a => a :: adS ca r
    | none => adS ca r
  | _ :: r => adS ca r
def addA (Hf H : Hp) (as : List Addr) : Hp := fun a => if a ∈ as then H a else Hf a
def remA (Hf : Hp) (as : List Addr) : Hp := fun a => if a ∈ as then none else Hf a
section
variable {B : Hp} {ca : List Addr} {ρ : List S} {cs : Store} {Hf Hf' : Hp} {σ : L2.St} {H H' : Hp} {ss tt : List S} {vs : List V} {as : List Addr}
theorem adS_sub : ∀ {ss : List S} {a : Addr}, a ∈ adS ca ss → a ∈ ca
  | .cel j :: r, a, h => by
    unfold adS at h
    split at h
    · rename_i b e
      rcases List.mem_cons.1 h with rfl | h
      · exact List.mem_of_getElem? e
      · exact adS_sub h
    · exact adS_sub h
  | .no :: r, a, h => adS_sub (ss := r) h
  | .d x :: r, a, h => adS_sub (ss := r) h
  | .fn x :: r, a, h => adS_sub (ss := r) h
/-- what is seen of cells: lists -/
theorem adS_lst (r : Rel B ca ρ cs Hf σ H) : ∀ {ss tt : List S} {a : Addr}, seeS cs ss = some tt → a ∈ adS ca ss → ∃ vs xs, H a = some (.lst vs) ∧ Dds Hf vs xs
  | .cel j :: t, tt, a, e, h => by
    unfold seeS at e
    split at e
    · rename_i xs q
      obtain ⟨b, h1, vs, h2, h3⟩ := r.cells j _ q
      unfold adS at h
      rw [h1] at h
      rcases List.mem_cons.1 h with rfl | h
      · exact ⟨vs, xs, h2, h3⟩
      · cases z : seeS cs t with
        | none => rw [z] at e; cases e
        | some t' => exact adS_lst r z h
    · cases e
  | .no :: t, tt, a, e, h => by
    cases z : seeS cs t with
    | none => have e' : (seeS cs t).map (S.no :: ·) = some tt := e; rw [z] at e'; cases e'
    | some t' => exact adS_lst r z (show a ∈ adS ca t from h)
  | .d x :: t, tt, a, e, h => by
    cases z : seeS cs t with
    | none => have e' : (seeS cs t).map (S.d x :: ·) = some tt := e; rw [z] at e'; cases e'
    | some t' => exact adS_lst r z (show a ∈ adS ca t from h)
  | .fn x :: t, tt, a, e, h => by
    cases z : seeS cs t with
    | none => have e' : (seeS cs t).map (S.fn x :: ·) = some tt := e; rw [z] at e'; cases e'
    | some t' => exact adS_lst r z (show a ∈ adS ca t from h)
theorem addA_ex (off : ∀ a ∈ as, Hf a = none) : Ex Hf (addA Hf H as) := fun a o h => by
  unfold addA
  rw [if_neg]
  · exact h
  · intro m; rw [off a m] at h; cases h
theorem addA_ext (e : Ex Hf H) : Ex (addA Hf H as) H := fun a o h => by
  unfold addA at h
  split at h
  · exact h
  · exact e a o h
theorem see_sv (r : Rel B ca ρ cs Hf σ H) (off : ∀ a ∈ as, Hf a = none) : ∀ {ss tt : List S} {vs : List V}, seeS cs ss = some tt → (∀ a ∈ adS ca ss, a ∈ as) → SvsOk ca Hf ss vs → SvsOk [] (addA Hf H as) tt vs
  | [], tt, _, e, _, h => by cases h; cases e; exact .nil
  | .no :: t, tt, _, e, _, h => by cases h with | cons h t => exact h.elim
  | .d x :: t, tt, _, e, m, h => by
    cases h with
    | cons h k =>
      have e' : (seeS cs t).map (S.d x :: ·) = some tt := e
      cases z : seeS cs t with
      | none => rw [z] at e'; cases e'
      | some t' => rw [z] at e'; cases e'; exact .cons (dp_ex (addA_ex off) h) (see_sv r off z m k)
  | .fn x :: t, tt, _, e, m, h => by
    cases h with
    | cons h k =>
      have e' : (seeS cs t).map (S.fn x :: ·) = some tt := e
      cases z : seeS cs t with
      | none => rw [z] at e'; cases e'
      | some t' => rw [z] at e'; cases e'; exact .cons h (see_sv r off z m k)
  | .cel j :: t, tt, _, e, m, h => by
    cases h with
    | cons h k =>
      unfold seeS at e
      split at e
      · rename_i xs q
        obtain ⟨a, ha, rfl⟩ := h
        obtain ⟨b, h1, vs, h2, h3⟩ := r.cells j _ q
        have eb : a = b := by rw [ha] at h1; exact Option.some.inj h1
        subst eb
        have m' : ∀ x ∈ adS ca (.cel j :: t), x ∈ as := m
        unfold adS at m'
        rw [ha] at m'
        cases z : seeS cs t with
        | none => rw [z] at e; cases e
        | some t' =>
          rw [z] at e; cases e
          refine .cons (.lst (.inl ?_) (dps_ex (addA_ex off) h3)) (see_sv r off z (fun x hx => m' x (List.mem_cons_of_mem _ hx)) k)
          unfold addA
          rw [if_pos (m' a (List.mem_cons_self ..))]
          exact h2
      · cases e
theorem see_nocel : ∀ {ss tt : List S}, seeS cs ss = some tt → noCel tt = true
  | [], tt, e => by cases e; rfl
  | .no :: t, tt, e => by
    have e' : (seeS cs t).map (S.no :: ·) = some tt := e
    cases z : seeS cs t with
    | none => rw [z] at e'; cases e'
    | some t' => rw [z] at e'; cases e'; exact (show noCel t' = true from see_nocel z)
  | .d x :: t, tt, e => by
    have e' : (seeS cs t).map (S.d x :: ·) = some tt := e
    cases z : seeS cs t with
    | none => rw [z] at e'; cases e'
    | some t' => rw [z] at e'; cases e'; exact (show noCel t' = true from see_nocel z)
  | .fn x :: t, tt, e => by
    have e' : (seeS cs t).map (S.fn x :: ·) = some tt := e
    cases z : seeS cs t with
    | none => rw [z] at e'; cases e'
    | some t' => rw [z] at e'; cases e'; exact (show noCel t' = true from see_nocel z)
  | .cel j :: t, tt, e => by
    unfold seeS at e
    split at e
    · cases z : seeS cs t with
      | none => rw [z] at e; cases e
      | some t' => rw [z] at e; cases e; exact (show noCel t' = true from see_nocel z)
    · cases e
theorem Rel.enterV (r : Rel B ca ρ cs Hf σ H) (off : ∀ a ∈ as, Hf a = none) (hv : SvsOk [] (addA Hf H as) tt vs) : Rel (ban (addA Hf H as) H []) [] tt [] (addA Hf H as) (vs.map some) H :=
  ⟨addA_ext r.ext, by simp [hv.len], slots_of hv, fun j o e => by simp at e, rfl, List.nodup_nil, fun a m => by simp at m, ban_ex, fun a m => ban_of m⟩
theorem Rel.leaveV {ss' : List S} {σ' : L2.St} (r : Rel B ca ρ cs Hf σ H) (sub : ∀ a ∈ as, a ∈ ca) (e : Ex (addA Hf H as) Hf') (r' : Rel (ban (addA Hf H as) H []) [] ss' [] Hf' σ' H') : Rel B ca ρ cs (remA Hf' as) σ H' ∧ Nx ca Hf ca (remA Hf' as) := by
  have off : ∀ a ∈ as, Hf a = none := fun a m => r.off a (sub a m)
  have kp : ∀ a, Hf a = none → ∀ o, H a = some o → H' a = some o := fun a h o q => by
    by_cases m : a ∈ as
    · refine r'.ext a o (e a o ?_)
      unfold addA; rw [if_pos m]; exact q
    · refine r'.exb a o (ban_some ?_ (by simp) q)
      unfold addA; rw [if_neg m]; exact h
  have nf : ∀ a, Hf a = none → H a ≠ none → remA Hf' as a = none := fun a h q => by
    unfold remA
    by_cases m : a ∈ as
    · rw [if_pos m]
    · rw [if_neg m]
      cases z : H a with
      | none => exact absurd z q
      | some o => exact (r'.dis a (by rw [ban_some (by unfold addA; rw [if_neg m]; exact h) (by simp) z]; simp)).1
  have ex : Ex Hf (remA Hf' as) := fun a o h => by
    unfold remA
    rw [if_neg fun m => by rw [off a m] at h; cases h]
    exact e a o (addA_ex off a o h)
  have n : Nx ca Hf ca (remA Hf' as) := ⟨List.prefix_refl _, ex⟩
  refine ⟨⟨fun a o h => ?_, r.len, fun i s q => ?_, fun j o q => ?_, r.lenc, r.nd, fun a m => nf a (r.off a m) (r.there m), fun a o q => kp a (r.dis a (by rw [q]; simp)).1 o (r.exb a o q), fun a m => ?_⟩, n⟩
  · unfold remA at h
    split at h
    · cases h
    · exact r'.ext a o h
  · rcases r.sl i s q with z | ⟨v, h1, h2⟩
    · exact .inl z
    · exact .inr ⟨v, h1, h2.nx n⟩
  · obtain ⟨a, h1, h2⟩ := r.cells j o q
    refine ⟨a, h1, h2.at ?_ ex⟩
    have ma := List.mem_of_getElem? h1
    cases z : H a with
    | none => exact absurd z (r.there ma)
    | some u => exact kp a (r.off a ma) u z
  · obtain ⟨h1, h2⟩ := r.dis a m
    refine ⟨nf a h1 ?_, h2⟩
    cases q : B a with
    | none => exact absurd q m
    | some u => rw [r.exb a u q]; simp
theorem rd_rem {a : Addr} {us : List V} (hl : ∀ a ∈ as, ∃ ws, Hf' a = some (.lst ws)) (h : Rd Hf' a (.tup us)) : Rd (remA Hf' as) a (.tup us) := by
  have na : a ∉ as := fun m => by
    obtain ⟨ws, e⟩ := hl a m
    rcases h with h | ⟨o, h⟩ <;> rw [e] at h <;> cases h
  rcases h with h | ⟨o, h⟩
  · exact .inl (by unfold remA; rw [if_neg na]; exact h)
  · exact .inr ⟨o, by unfold remA; rw [if_neg na]; exact h⟩
mutual
theorem dd_rem (hl : ∀ a ∈ as, ∃ ws, Hf' a = some (.lst ws)) : ∀ {v : V} {d : D}, nlD d = true → Dd Hf' v d → Dd (remA Hf' as) v d
  | _, _, _, .non => .non
  | _, _, _, .bl b => .bl b
  | _, _, _, .int i => .int i
  | _, _, _, .str x => .str x
  | _, _, n, .lst _ _ => by cases n
  | _, _, n, .tup h a => .tup (rd_rem hl h) (dds_rem hl n a)
theorem dds_rem (hl : ∀ a ∈ as, ∃ ws, Hf' a = some (.lst ws)) : ∀ {vs : List V} {ds : List D}, nlDs ds = true → Dds Hf' vs ds → Dds (remA Hf' as) vs ds
  | _, _, _, .nil => .nil
  | _, _, n, .cons h t => by
    have n' := (Bool.and_eq_true _ _).mp n
    exact .cons (dd_rem hl n'.1 h) (dds_rem hl n'.2 t)
end
end
section
variable {X : Cx} {W : WX} {k : Nat} {x : Str} {ps : List Str} {F : List S → M Rv} {p pos : Pos} {e : Expr} {es : List Expr} {g : List S → M (List S)}
theorem callV_run {n : Nat} {B : Hp} {ca : List Addr} {ρ : List S} {cs : Store} {Hf : Hp} {σ : L2.St} {H : Hp} {Q : VK} {ss : List S} {vs : List V} (r : Rel B ca ρ cs Hf σ H) (hn : vs.length = n) (hv : SvsOk ca Hf ss vs)
    (h : Gs X W B ca Hf ρ σ (callV F ss cs) (fun ca' Hf' H' _ rv => ∀ v, RvOk B ca' Hf' H' rv v → Q v H')) : spE X.mg n F vs H Q (WE W σ) := by
  unfold callV at h
  cases q0 : seeS cs ss with
  | none => rw [q0] at h; exact h.elim
  | some tt =>
    rw [q0] at h
    have sub : ∀ a ∈ adS ca ss, a ∈ ca := fun a m => adS_sub m
    have off : ∀ a ∈ adS ca ss, Hf a = none := fun a m => r.off a (sub a m)
    have hv' := see_sv r off q0 (fun a m => m) hv
    refine ⟨hn, _, [], [], addA Hf H (adS ca ss), tt, r.enterV off hv', ?_⟩
    have lst : ∀ {Hf' : Hp}, Ex (addA Hf H (adS ca ss)) Hf' → ∀ a ∈ adS ca ss, ∃ ws, Hf' a = some (.lst ws) := fun ex a m => by
      obtain ⟨ws, xs, h1, h2⟩ := adS_lst r q0 m
      refine ⟨ws, ex a _ ?_⟩
      unfold addA; rw [if_pos m]; exact h1
    cases q : F tt [] with
    | no => simp only [q] at h; exact h.elim
    | er c cs1 =>
      simp only [q] at h
      intro Hf' H' cls ex r' hm
      cases cs1 with
      | nil =>
        obtain ⟨r2, n2⟩ := r.leaveV sub ex r'
        exact h ca _ H' cls n2 r2 hm
      | cons _ _ => exact absurd r'.lenc (by simp)
    | ok rv cs1 =>
      simp only [q] at h
      intro Hf' H' v ex r' hr
      have e1 : cs1 = [] := by
        have := r'.lenc
        exact List.length_eq_zero_iff.mp (by simpa using this.symm)
      subst e1
      obtain ⟨r2, n2⟩ := r.leaveV sub ex r'
      cases rv with
      | d y =>
        by_cases c : nlD y = true
        · simp only [c, if_true] at h
          exact h ca _ H' n2 r2 v (dd_rem (lst ex) c hr)
        · simp only [c] at h; exact h.elim
      | own o =>
        cases o with
        | dK kvs => exact h.elim
        | lst xs =>
          by_cases c : nlDs xs = true
          · simp only [c, if_true] at h
            refine h ca _ H' n2 r2 v ?_
            obtain ⟨a, e, ⟨ws, g1, g2⟩, g3, _, g5⟩ := hr
            have na : a ∉ adS ca ss := fun m => by
              obtain ⟨ws', e'⟩ := lst ex a m
              rw [e'] at g3; cases g3
            have hb : ∀ o, H a = some o → Hf a = none → False := fun o q z => by
              rw [ban_some (by unfold addA; rw [if_neg na]; exact z) (by simp) q] at g5; cases g5
            refine ⟨a, e, ⟨ws, g1, dds_rem (lst ex) c g2⟩, ?_, fun m => ?_, ?_⟩
            · unfold remA; rw [if_neg na]; exact g3
            · cases z : H a with
              | none => exact r.there m z
              | some u => exact hb u z (r.off a m)
            · cases z : B a with
              | none => rfl
              | some u => exact (hb u (r.exb a u z) (r.dis a (by rw [z]; simp)).1).elim
          · simp only [c] at h; exact h.elim
      | cel j => exact h.elim
theorem do_fV (h : Okf X.prog X.w X.K X.mg X.base k x ps F) (hr : Room k X.A) (tk : Takes X W)
    (ha : DA X W (e :: es) g) (hlen : ∀ ρ cs ss cs', g ρ cs = .ok ss cs' → ss.length = ps.length) (hl : (e :: es).length = ps.length := by rfl) (hg : Gl X x := by rfl) (hdb : (x == ("__debug__" : Str)) = false := by decide) (he : starEach (e :: es) X.env = (false, eval e X.env) :: starEach es X.env := by rfl) (hpl : (backTo pos (starEach es X.env)).any (·.1) = false := by rfl)
    : DO X W (.Call (.Name x p) (e :: es) [] pos) (eCallV F g) := by
  obtain ⟨f, fd, hm, _, Fk, hb, hk⟩ := h
  obtain ⟨t, pt, kt⟩ := ha
  refine ⟨_, pe_callS (E := WE W) Fk hr hg hm hk hb (passAt tk) pt hdb he hpl, fun B ca ρ cs Hf σ H Q r h => ?_⟩
  have h' := h
  cases q : g ρ cs with
  | ok ss cs1 =>
    refine kt B ca ρ cs Hf σ H _ r ?_
    have hss := hlen ρ cs ss cs1 q
    rw [q]
    intro ca1 Hf1 H1 n1 r1 vs hvs
    have h1 : Gs X W B ca1 Hf1 ρ σ (callV F ss cs1) (fun ca' Hf' H' _ rv => ∀ v, RvOk B ca' Hf' H' rv v → Q v H') := by
      have e1 : eCallV F g ρ cs = callV F ss cs1 := bnd_ok q
      rw [← e1]; exact h.fwd n1
    exact callV_run r1 (by rw [← hvs.len]; exact hss) hvs h1
  | er c cs1 =>
    refine kt B ca ρ cs Hf σ H _ r ?_
    rw [q]
    have e1 : eCallV F g ρ cs = .er c cs1 := by unfold eCallV bnd; rw [q]
    rw [e1] at h
    exact h
  | no =>
    have e1 : eCallV F g ρ cs = .no := by unfold eCallV bnd; rw [q]
    rw [e1] at h
    exact h.elim
end
end Dn

set_option Elab.async false
set_option linter.all false
set_option maxRecDepth 100000
set_option maxHeartbeats 1000000
/-! DnS: what mirrors come to, by simp. -/
namespace Dn
open PySem L2
section
variable {α β : Type} {cs cs' : Store} {ρ : List S} {i j : Nat}
@[simp] theorem ret_ (a : α) : ret a cs = .ok a cs := rfl
@[simp] theorem stuck_ : (stuck : M α) cs = .no := rfl
@[simp] theorem bnd_ (m : M α) (k : α → M β) : bnd m k cs = match m cs with
  | .ok a cs' => k a cs'
  | .er c cs' => .er c cs'
  | .no => .no := rfl
@[simp] theorem ofO_some (a : α) : ofO (some a) cs = .ok a cs := rfl
@[simp] theorem ofO_none : (ofO (none : Option α)) cs = .no := rfl
@[simp] theorem vw_d (x : D) : vw (.d x) cs = some x := rfl
@[simp] theorem vw_cel : vw (.cel j) cs = match cs[j]? with
    | some (.lst xs) => some (.list xs)
    | _ => none := rfl
@[simp] theorem vwM_d (x : D) : vwM (.d x) cs = .ok x cs := rfl
@[simp] theorem vwM_cel : vwM (.cel j) cs = match cs[j]? with
    | some (.lst xs) => .ok (.list xs) cs
    | _ => .no := by
  show (match vw (.cel j) cs with
    | some d => Res.ok d cs
    | none => .no) = _
  rw [vw_cel]
  cases cs[j]? with
  | none => rfl
  | some o => cases o <;> rfl
@[simp] theorem eV_ : eV i ρ = match ρ[i]? with
  | some (.d x) => ret (.d x)
  | some (.cel j) => ret (.cel j)
  | some (.fn a) => ret (.fn a)
  | _ => stuck := rfl
@[simp] theorem eC_ (d : D) : eC d ρ cs = .ok (.d d) cs := rfl
@[simp] theorem eFn_ (a : Addr) : eFn a ρ cs = .ok (.fn a) cs := rfl
@[simp] theorem op2_ (g : D → D → Option β) (fa fb : List S → M S) : op2 g fa fb ρ cs = bnd (fa ρ) (fun a => bnd (fb ρ) fun b => bnd (vwM a) fun x => bnd (vwM b) fun y => ofO (g x y)) cs := rfl
@[simp] theorem op1_ (g : D → Option β) (fa : List S → M S) : op1 g fa ρ cs = bnd (fa ρ) (fun a => bnd (vwM a) fun x => ofO (g x)) cs := rfl
@[simp] theorem eBin_ (g : D → D → Option D) (fa fb : List S → M S) : eBin g fa fb ρ cs = bnd (op2 g fa fb ρ) (fun d => ret (.d d)) cs := rfl
@[simp] theorem eCmp_ (g : D → D → Option Bool) (fa fb : List S → M S) : eCmp g fa fb ρ cs = bnd (op2 g fa fb ρ) (fun b => ret (.d (.bool b))) cs := rfl
@[simp] theorem eIsN_ (fa : List S → M S) : eIsN fa ρ cs = bnd (op1 isnD fa ρ) (fun b => ret (.d (.bool b))) cs := rfl
@[simp] theorem eIsNN_ (fa : List S → M S) : eIsNN fa ρ cs = bnd (op1 isnD fa ρ) (fun b => ret (.d (.bool (!b)))) cs := rfl
@[simp] theorem tT_ (fa : List S → M S) : tT fa ρ cs = op1 truD fa ρ cs := rfl
@[simp] theorem tNotM_ (f : List S → M Bool) : tNotM f ρ cs = bnd (f ρ) (fun b => ret (!b)) cs := rfl
@[simp] theorem tAndM_ (f g : List S → M Bool) : tAndM f g ρ cs = bnd (f ρ) (fun b => if b = true then g ρ else ret false) cs := rfl
@[simp] theorem tOrM_ (f g : List S → M Bool) : tOrM f g ρ cs = bnd (f ρ) (fun b => if b = true then ret true else g ρ) cs := rfl
@[simp] theorem eAndM_ (f g : List S → M S) : eAndM f g ρ cs = bnd (f ρ) (fun a => bnd (vwM a) fun x => bnd (ofO (truD x)) fun b => if b = true then g ρ else ret a) cs := rfl
@[simp] theorem eOrM_ (f g : List S → M S) : eOrM f g ρ cs = bnd (f ρ) (fun a => bnd (vwM a) fun x => bnd (ofO (truD x)) fun b => if b = true then ret a else g ρ) cs := rfl
@[simp] theorem eNotM_ (f : List S → M S) : eNotM f ρ cs = bnd (op1 truD f ρ) (fun b => ret (.d (.bool (!b)))) cs := rfl
@[simp] theorem eNeg_ (f : List S → M S) : eNeg f ρ cs = bnd (op1 negD f ρ) (fun d => ret (.d d)) cs := rfl
@[simp] theorem eIf_ (t : List S → M Bool) (f g : List S → M S) : eIf t f g ρ cs = bnd (t ρ) (fun b => if b = true then f ρ else g ρ) cs := rfl
@[simp] theorem tChn_ (g g' : D → D → Option Bool) (fa fb fc : List S → M S) : tChn g g' fa fb fc ρ cs = bnd (fa ρ) (fun a => bnd (fb ρ) fun b => bnd (vwM a) fun x => bnd (vwM b) fun y => bnd (ofO (g x y)) fun k => if k = true then bnd (fc ρ) fun c => bnd (vwM b) fun y' => bnd (vwM c) fun z => ofO (g' y' z) else ret false) cs := rfl
@[simp] theorem eChn_ (g g' : D → D → Option Bool) (fa fb fc : List S → M S) : eChn g g' fa fb fc ρ cs = bnd (tChn g g' fa fb fc ρ) (fun b => ret (.d (.bool b))) cs := rfl
@[simp] theorem aNil_ : aNil ρ cs = .ok [] cs := rfl
@[simp] theorem aCons_ (f : List S → M S) (g : List S → M (List S)) : aCons f g ρ cs = bnd (f ρ) (fun a => bnd (g ρ) fun as => ret (a :: as)) cs := rfl
@[simp] theorem asD_nil : asD [] = some [] := rfl
@[simp] theorem asD_d (x : D) (r : List S) : asD (.d x :: r) = (asD r).map (x :: ·) := rfl
@[simp] theorem eTup_ (g : List S → M (List S)) : eTup g ρ cs = bnd (g ρ) (fun as => bnd (ofO (asD as)) fun xs => if xs.length ≤ sizeLine then ret (.d (.tuple xs)) else stuck) cs := rfl
@[simp] theorem eLst_ (g : List S → M (List S)) : eLst g ρ cs = bnd (g ρ) (fun as => bnd (ofO (asD as)) fun xs => if xs.length ≤ sizeLine then ret (.own (.lst xs)) else stuck) cs := rfl
@[simp] theorem frz_d (x : D) : frz (.d x) = ret (.d x) := rfl
@[simp] theorem frz_own (xs : List D) : frz (.own (.lst xs)) = ret (.d (.list xs)) := rfl
@[simp] theorem frz_cel : frz (.cel j) = ret (.cel j) := rfl
@[simp] theorem eFrz_ (f : List S → M Rv) : eFrz f ρ cs = bnd (f ρ) frz cs := rfl
@[simp] theorem sRv_d (x : D) : sRv (.d x) = ret (.d x) := rfl
@[simp] theorem sRv_cel : sRv (.cel j) = ret (.cel j) := rfl
@[simp] theorem eRv_ (f : List S → M S) : eRv f ρ cs = bnd (f ρ) sRv cs := rfl
@[simp] theorem oNone_ : oNone ρ cs = .ok none cs := rfl
@[simp] theorem oSome_ (f : List S → M S) : oSome f ρ cs = bnd (f ρ) (fun a => match a with
  | .d (.int i) => ret (some i)
  | _ => stuck) cs := rfl
@[simp] theorem eSl_ (f : List S → M S) (l h : List S → M (Option Int)) : eSl f l h ρ cs = bnd (f ρ) (fun a => bnd (l ρ) fun lo => bnd (h ρ) fun hi => bnd (vwM a) fun x => bnd (ofO (slD x lo hi)) fun d => ret (.d d)) cs := rfl
@[simp] theorem vws_nil : vws [] cs = some [] := rfl
theorem vws_cons (s : S) (r : List S) : vws (s :: r) cs = match vw s cs, vws r cs with
    | some d, some ds => some (d :: ds)
    | _, _ => none := rfl
@[simp] theorem vws_d (x : D) (r : List S) : vws (.d x :: r) cs = (vws r cs).map (x :: ·) := by
  rw [vws_cons, vw_d]
  cases vws r cs <;> rfl
theorem vws_cel {xs : List D} (r : List S) (h : cs[j]? = some (.lst xs)) : vws (.cel j :: r) cs = (vws r cs).map (.list xs :: ·) := by
  rw [vws_cons, vw_cel, h]
  cases vws r cs <;> rfl
@[simp] theorem vwsM_nil : vwsM [] cs = .ok [] cs := rfl
@[simp] theorem vwsM_d (x : D) (r : List S) : vwsM (.d x :: r) cs = bnd (vwsM r) (fun ds => ret (x :: ds)) cs := by
  unfold vwsM bnd ret
  simp only []
  rw [vws_d]
  cases vws r cs <;> rfl
theorem vwsM_cel {xs : List D} (r : List S) (h : cs[j]? = some (.lst xs)) : vwsM (.cel j :: r) cs = bnd (vwsM r) (fun ds => ret (.list xs :: ds)) cs := by
  unfold vwsM bnd ret
  simp only []
  rw [vws_cel r h]
  cases vws r cs <;> rfl
@[simp] theorem eCd_ (g : List D → Option D) (f : List S → M (List S)) : eCd g f ρ cs = bnd (f ρ) (fun ss => bnd (vwsM ss) fun ds => bnd (ofO (g ds)) fun d => ret (.d d)) cs := rfl
@[simp] theorem eIsa_ (T : String) (fa : List S → M S) : eIsa T fa ρ cs = bnd (op1 (fun d => some (isaD T d)) fa ρ) (fun b => ret (.d (.bool b))) cs := rfl
@[simp] theorem celM_lst {xs : List D} (h : cs[j]? = some (.lst xs)) : celM (.cel j) cs = .ok (j, xs) cs := by
  unfold celM; simp only [h]
@[simp] theorem putM_ (o : OC) : putM j o cs = .ok () (cs.set j o) := rfl
@[simp] theorem fin__ (g : List D → List D → Option (D × List D)) (s : S) (ss : List S) : fin_ g s ss cs = bnd (celM s) (fun p => bnd (ofO (asD ss)) fun ds => bnd (ofO (if p.2.length ≤ sizeLine then g p.2 ds else none)) fun q => bnd (putM p.1 (.lst q.2)) fun _ => ret (.d q.1)) cs := rfl
@[simp] theorem eMt_ (g : List D → List D → Option (D × List D)) (fo : List S → M S) (fa : List S → M (List S)) : eMt g fo fa ρ cs = bnd (fo ρ) (fun s => bnd (celM s) fun _ => bnd (fa ρ) fun ss => fin_ g s ss) cs := rfl
@[simp] theorem eMt0_ (g : List D → List D → Option (D × List D)) (fo : List S → M S) : eMt0 g fo ρ cs = bnd (fo ρ) (fun s => fin_ g s []) cs := rfl
@[simp] theorem appG_ (xs : List D) (d : D) : appG xs [d] = if xs.length < sizeLine then some (.none, xs ++ [d]) else none := rfl
@[simp] theorem extG_ (xs ys : List D) : extG xs [.list ys] = if xs.length + ys.length ≤ sizeLine then some (.none, xs ++ ys) else none := rfl
@[simp] theorem popG_ (xs : List D) (d : D) : popG (xs ++ [d]) [] = some (d, xs) := by
  unfold popG
  simp
/-! statements -/
@[simp] theorem stp_ (m : M α) (k : α → Store → Out) : stp m k ρ cs = match m cs with
  | .ok a cs' => k a cs'
  | .er c cs' => .er c ρ cs'
  | .no => .no := rfl
@[simp] theorem gNil_ : gNil ρ cs = .nx ρ cs := rfl
@[simp] theorem gSeq_ (g h : G) : gSeq g h ρ cs = match g ρ cs with
  | .nx ρ' cs' => h ρ' cs'
  | o => o := rfl
@[simp] theorem sSet_ (f : List S → M S) : sSet i f ρ cs = stp (f ρ) (fun s cs => .nx (ρ.set i s) cs) ρ cs := rfl
@[simp] theorem sNew_ (f : List S → M Rv) : sNew i f ρ cs = stp (f ρ) (fun r cs => match r with
  | .own o => .nx (ρ.set i (.cel cs.length)) (cs ++ [o])
  | .d x => .nx (ρ.set i (.d x)) cs
  | .cel j => .nx (ρ.set i (.cel j)) cs) ρ cs := rfl
@[simp] theorem sRet_ (f : List S → M Rv) : sRet f ρ cs = stp (f ρ) (fun r cs => .rt r cs) ρ cs := rfl
@[simp] theorem sRetN_ : sRetN ρ cs = .rt (.d .none) cs := rfl
@[simp] theorem sExp_ (f : List S → M S) : sExp f ρ cs = stp (f ρ) (fun _ cs => .nx ρ cs) ρ cs := rfl
@[simp] theorem sIf_ (t : List S → M Bool) (g h : G) : sIf t g h ρ cs = stp (t ρ) (fun b cs => if b = true then g ρ cs else h ρ cs) ρ cs := rfl
@[simp] theorem sErr_ (c : Str) : sErr c ρ cs = .er c ρ cs := rfl
@[simp] theorem gPass_ : gPass ρ cs = .nx ρ cs := rfl
@[simp] theorem gBrk_ : gBrk ρ cs = .bk ρ cs := rfl
@[simp] theorem gCon_ : gCon ρ cs = .ct ρ cs := rfl
@[simp] theorem gFor_nil (tg : D → List S → Option (List S)) (body : G) : gFor tg body [] ρ cs = .nx ρ cs := rfl
theorem gFor_cons (tg : D → List S → Option (List S)) (body : G) (x : D) (xs : List D) : gFor tg body (x :: xs) ρ cs = match tg x ρ with
    | none => .no
    | some ρ1 => match body ρ1 cs with
      | .nx ρ' cs' => gFor tg body xs ρ' cs'
      | .ct ρ' cs' => gFor tg body xs ρ' cs'
      | .bk ρ' cs' => .nx ρ' cs'
      | .rt r cs' => .rt r cs'
      | .er c ρ' cs' => .er c ρ' cs'
      | .no => .no := rfl
@[simp] theorem gtN_ (d : D) : gtN i d ρ = some (ρ.set i (.d d)) := rfl
@[simp] theorem sFor_ (tg : D → List S → Option (List S)) (it : List S → M (List D)) (body : G) : sFor tg it body ρ cs = stp (it ρ) (fun xs cs => gFor tg body xs ρ cs) ρ cs := rfl
@[simp] theorem iSeq_ (f : List S → M S) : iSeq f ρ cs = bnd (f ρ) (fun s => match s with
  | .d (.list xs) => ret xs
  | _ => stuck) cs := rfl
@[simp] theorem iTupM_ (f : List S → M S) : iTupM f ρ cs = bnd (f ρ) (fun s => match s with
  | .d (.tuple xs) => ret xs
  | _ => stuck) cs := rfl
@[simp] theorem iRng_ (f : List S → M S) : iRng f ρ cs = bnd (f ρ) (fun s => match s with
  | .d (.int j) => if -(2 ^ 62) ≤ j ∧ j < 2 ^ 62 then ret (rngD 0 j.toNat) else stuck
  | _ => stuck) cs := rfl
theorem gWhile_succ (t : List S → M Bool) (body : G) (n : Nat) : gWhile t body (n + 1) ρ cs = stp (t ρ) (fun b cs => if b = true then (match body ρ cs with
      | .nx ρ' cs' => gWhile t body n ρ' cs'
      | .ct ρ' cs' => gWhile t body n ρ' cs'
      | .bk ρ' cs' => .nx ρ' cs'
      | .rt r cs' => .rt r cs'
      | .er c ρ' cs' => .er c ρ' cs'
      | .no => .no) else .nx ρ cs) ρ cs := rfl
@[simp] theorem sSub_ (fo fi fe : List S → M S) : sSub fo fi fe ρ cs = stp (bnd (fe ρ) fun e => bnd (fo ρ) fun o => bnd (fi ρ) fun i => bnd (celM o) fun p => match e, i with
  | .d x, .d (.int k) => bnd (ofO (ixN p.2.length k)) fun j => putM p.1 (.lst (p.2.set j x))
  | _, _ => stuck) (fun _ cs => .nx ρ cs) ρ cs := rfl
@[simp] theorem runG_ (m : Nat) (g : G) (ss : List S) : runG m g ss cs = fin cs.length (g (ss ++ List.replicate m .no) cs) := rfl
@[simp] theorem fin_nx (n : Nat) : fin n (.nx ρ cs) = .ok (.d .none) (cs.take n) := rfl
@[simp] theorem fin_d (n : Nat) (x : D) : fin n (.rt (.d x) cs) = .ok (.d x) (cs.take n) := rfl
@[simp] theorem fin_own (n : Nat) (o : OC) : fin n (.rt (.own o) cs) = .ok (.own o) (cs.take n) := rfl
@[simp] theorem fin_er (n : Nat) (c : Str) : fin n (.er c ρ cs) = .er c (cs.take n) := rfl
@[simp] theorem fin_no (n : Nat) : fin n .no = .no := rfl
theorem fin_cel (n : Nat) : fin n (.rt (.cel j) cs) = if j < n then .ok (.cel j) (cs.take n) else match cs[j]? with
    | some o => .ok (.own o) (cs.take n)
    | none => .no := rfl
/-! calls -/
@[simp] theorem noCel_nil : noCel [] = true := rfl
@[simp] theorem noCel_d (x : D) (r : List S) : noCel (.d x :: r) = noCel r := rfl
@[simp] theorem noCel_fn (a : Addr) (r : List S) : noCel (.fn a :: r) = noCel r := rfl
@[simp] theorem callP_ (F : List S → M Rv) (ss : List S) : callP F ss cs = if noCel ss = true then (match F ss [] with
  | .ok (.d x) _ => .ok (.d x) cs
  | .ok (.own o) _ => .ok (.own o) cs
  | .ok (.cel _) _ => .no
  | .er c _ => .er c cs
  | .no => .no) else .no := rfl
@[simp] theorem callC_ (F : List S → M Rv) (r : List S) : callC F (.cel j :: r) cs = if noCel r = true then (match cs[j]? with
    | some o => match F (.cel 0 :: r) [o] with
      | .ok (.d x) [o'] => .ok (.d x) (cs.set j o')
      | .ok (.own u) [o'] => .ok (.own u) (cs.set j o')
      | .ok (.cel 0) [o'] => .ok (.cel j) (cs.set j o')
      | .er c [o'] => .er c (cs.set j o')
      | _ => .no
    | none => .no) else .no := rfl
@[simp] theorem eCall_ (F : List S → M Rv) (g : List S → M (List S)) : eCall F g ρ cs = bnd (g ρ) (callP F) cs := rfl
@[simp] theorem eCallC_ (F : List S → M Rv) (g : List S → M (List S)) : eCallC F g ρ cs = bnd (g ρ) (callC F) cs := rfl
@[simp] theorem eCallL_ (a : Addr) (F : List S → M Rv) (g : List S → M (List S)) : eCallL i a F g ρ cs = match ρ[i]? with
  | some (.fn b) => if b = a then bnd (g ρ) (fun ss cs => match callP F ss cs with
    | .er _ _ => .no
    | o => o) cs else .no
  | _ => .no := rfl
/-! data -/
@[simp] theorem addD_int (x y : Int) : addD (.int x) (.int y) = some (.int (x + y)) := rfl
@[simp] theorem subD_int (x y : Int) : subD (.int x) (.int y) = some (.int (x - y)) := rfl
@[simp] theorem mulD_int (x y : Int) : mulD (.int x) (.int y) = if x.natAbs.log2 + y.natAbs.log2 < 1000000 then some (.int (x * y)) else none := rfl
@[simp] theorem fdivD_int (x y : Int) : fdivD (.int x) (.int y) = if 0 < y ∧ y.natAbs.log2 < 9000 then some (.int (x / y)) else none := rfl
@[simp] theorem modD_int (x y : Int) : modD (.int x) (.int y) = if 0 < y then some (.int (x % y)) else none := rfl
@[simp] theorem powD_int (x y : Int) : powD (.int x) (.int y) = if 0 ≤ y ∧ y ≤ 1000000 ∧ x.natAbs < 2 ^ 64 then some (.int (x ^ y.toNat)) else none := rfl
@[simp] theorem negD_int (x : Int) : negD (.int x) = some (.int (-x)) := rfl
@[simp] theorem ltD_int (x y : Int) : ltD (.int x) (.int y) = some (decide (x < y)) := rfl
@[simp] theorem leD_int (x y : Int) : leD (.int x) (.int y) = some (decide (x ≤ y)) := rfl
@[simp] theorem gtD_int (x y : Int) : gtD (.int x) (.int y) = some (decide (y < x)) := rfl
@[simp] theorem geD_int (x y : Int) : geD (.int x) (.int y) = some (decide (y ≤ x)) := rfl
@[simp] theorem eqD_int (x y : Int) : eqD (.int x) (.int y) = some (x == y) := by simp [eqD, scalD, PyData.eqv]
@[simp] theorem eqD_str (x y : Str) : eqD (.str x) (.str y) = some (x == y) := by simp [eqD, scalD, PyData.eqv]
@[simp] theorem eqD_bool (x y : Bool) : eqD (.bool x) (.bool y) = some (x == y) := by simp [eqD, scalD, PyData.eqv]
@[simp] theorem eqD_str_int (x : Str) (y : Int) : eqD (.str x) (.int y) = some false := by simp [eqD, scalD, PyData.eqv]
@[simp] theorem eqD_int_str (x : Str) (y : Int) : eqD (.int y) (.str x) = some false := by simp [eqD, scalD, PyData.eqv]
@[simp] theorem neD_int (x y : Int) : neD (.int x) (.int y) = some (!(x == y)) := by simp [neD]
@[simp] theorem neD_str (x y : Str) : neD (.str x) (.str y) = some (!(x == y)) := by simp [neD]
@[simp] theorem isnD_none : isnD .none = some true := rfl
@[simp] theorem isnD_bool (b : Bool) : isnD (.bool b) = some false := rfl
@[simp] theorem isnD_int (b : Int) : isnD (.int b) = some false := rfl
@[simp] theorem isnD_str (b : Str) : isnD (.str b) = some false := rfl
@[simp] theorem isnD_list (b : List D) : isnD (.list b) = some false := rfl
@[simp] theorem isnD_tuple (b : List D) : isnD (.tuple b) = some false := rfl
@[simp] theorem truD_bool (b : Bool) : truD (.bool b) = some b := rfl
@[simp] theorem truD_none : truD .none = some false := rfl
@[simp] theorem truD_list (b : List D) : truD (.list b) = some (!b.isEmpty) := rfl
@[simp] theorem truD_tuple (b : List D) : truD (.tuple b) = some (!b.isEmpty) := rfl
@[simp] theorem lenG_list (b : List D) : lenG [.list b] = some (.int b.length) := rfl
@[simp] theorem lenG_tuple (b : List D) : lenG [.tuple b] = some (.int b.length) := rfl
@[simp] theorem minG_ (x y : Int) : minG [.int x, .int y] = some (.int (if y < x then y else x)) := rfl
@[simp] theorem maxG_ (x y : Int) : maxG [.int x, .int y] = some (.int (if y > x then y else x)) := rfl
@[simp] theorem intG_int (x : Int) : intG [.int x] = some (.int x) := rfl
@[simp] theorem intG_bool (x : Bool) : intG [.bool x] = some (.int (if x then 1 else 0)) := rfl
@[simp] theorem listG_list (x : List D) : listG [.list x] = some (.list x) := rfl
@[simp] theorem listG_tuple (x : List D) : listG [.tuple x] = some (.list x) := rfl
@[simp] theorem tupleG_list (x : List D) : tupleG [.list x] = some (.tuple x) := rfl
@[simp] theorem tupleG_tuple (x : List D) : tupleG [.tuple x] = some (.tuple x) := rfl
@[simp] theorem ixD_list (xs : List D) (k : Int) : ixD (.list xs) (.int k) = atI xs k := rfl
@[simp] theorem ixD_tuple (xs : List D) (k : Int) : ixD (.tuple xs) (.int k) = atI xs k := rfl
@[simp] theorem slD_list (xs : List D) (lo hi : Option Int) : slD (.list xs) lo hi = some (.list (cutD xs lo hi)) := rfl
@[simp] theorem slD_tuple (xs : List D) (lo hi : Option Int) : slD (.tuple xs) lo hi = some (.tuple (cutD xs lo hi)) := rfl
/-- an item at a place -/
theorem atI_of {α : Type} {xs : List α} {k : Int} {n : Nat} {x : α} (hk : k = (n : Int)) (h : xs[n]? = some x) : atI xs k = some x := by
  subst hk; exact atI_nat h
@[simp] theorem atI0 {α : Type} (x : α) (xs : List α) : atI (x :: xs) 0 = some x := atI_of (n := 0) rfl rfl
@[simp] theorem atI1 {α : Type} (x y : α) (xs : List α) : atI (x :: y :: xs) 1 = some y := atI_of (n := 1) rfl rfl
@[simp] theorem atI2 {α : Type} (x y z : α) (xs : List α) : atI (x :: y :: z :: xs) 2 = some z := atI_of (n := 2) rfl rfl
@[simp] theorem atI3 {α : Type} (x y z u : α) (xs : List α) : atI (x :: y :: z :: u :: xs) 3 = some u := atI_of (n := 3) rfl rfl
@[simp] theorem atI4 {α : Type} (x y z u v : α) (xs : List α) : atI (x :: y :: z :: u :: v :: xs) 4 = some v := atI_of (n := 4) rfl rfl
@[simp] theorem atI5 {α : Type} (x y z u v w : α) (xs : List α) : atI (x :: y :: z :: u :: v :: w :: xs) 5 = some w := atI_of (n := 5) rfl rfl
@[simp] theorem atI6 {α : Type} (x y z u v w p : α) (xs : List α) : atI (x :: y :: z :: u :: v :: w :: p :: xs) 6 = some p := atI_of (n := 6) rfl rfl
/-- xs[k:] -/
theorem cutD_from (xs : List D) (k : Nat) : cutD xs (some (k : Int)) none = xs.drop k := by
  unfold cutD
  rw [HT.sIx_nat, HT.sIx_none, List.take_of_length_le (by simp)]
  by_cases h : k ≤ xs.length
  · rw [Nat.min_eq_left h]
  · rw [Nat.min_eq_right (by omega), List.drop_of_length_le (Nat.le_refl _), List.drop_of_length_le (by omega)]
@[simp] theorem cutD1 (xs : List D) : cutD xs (some 1) none = xs.drop 1 := cutD_from xs 1
@[simp] theorem cutD2 (xs : List D) : cutD xs (some 2) none = xs.drop 2 := cutD_from xs 2
@[simp] theorem cutD3 (xs : List D) : cutD xs (some 3) none = xs.drop 3 := cutD_from xs 3
theorem size_ok {n : Nat} (h : n ≤ 16000000) : n ≤ sizeLine := by rw [sizeLine_eq]; omega
theorem size_lt {n : Nat} (h : n < 16000000) : n < sizeLine := by rw [sizeLine_eq]; omega
@[simp] theorem size0 : (0 : Nat) ≤ sizeLine := Nat.zero_le _
@[simp] theorem size1 : (1 : Nat) ≤ sizeLine := size_ok (by omega)
@[simp] theorem size2 : (2 : Nat) ≤ sizeLine := size_ok (by omega)
@[simp] theorem size3 : (3 : Nat) ≤ sizeLine := size_ok (by omega)
@[simp] theorem size4 : (4 : Nat) ≤ sizeLine := size_ok (by omega)
@[simp] theorem size5 : (5 : Nat) ≤ sizeLine := size_ok (by omega)
@[simp] theorem size6 : (6 : Nat) ≤ sizeLine := size_ok (by omega)
@[simp] theorem size7 : (7 : Nat) ≤ sizeLine := size_ok (by omega)
@[simp] theorem size8 : (8 : Nat) ≤ sizeLine := size_ok (by omega)
@[simp] theorem size9 : (9 : Nat) ≤ sizeLine := size_ok (by omega)
@[simp] theorem size10 : (10 : Nat) ≤ sizeLine := size_ok (by omega)
@[simp] theorem size11 : (11 : Nat) ≤ sizeLine := size_ok (by omega)
@[simp] theorem size12 : (12 : Nat) ≤ sizeLine := size_ok (by omega)
@[simp] theorem size13 : (13 : Nat) ≤ sizeLine := size_ok (by omega)
@[simp] theorem size14 : (14 : Nat) ≤ sizeLine := size_ok (by omega)
@[simp] theorem size15 : (15 : Nat) ≤ sizeLine := size_ok (by omega)
@[simp] theorem size16 : (16 : Nat) ≤ sizeLine := size_ok (by omega)
@[simp] theorem size17 : (17 : Nat) ≤ sizeLine := size_ok (by omega)
@[simp] theorem size18 : (18 : Nat) ≤ sizeLine := size_ok (by omega)
@[simp] theorem size19 : (19 : Nat) ≤ sizeLine := size_ok (by omega)
@[simp] theorem size20 : (20 : Nat) ≤ sizeLine := size_ok (by omega)
@[simp] theorem size21 : (21 : Nat) ≤ sizeLine := size_ok (by omega)
@[simp] theorem size22 : (22 : Nat) ≤ sizeLine := size_ok (by omega)
@[simp] theorem size23 : (23 : Nat) ≤ sizeLine := size_ok (by omega)
@[simp] theorem size24 : (24 : Nat) ≤ sizeLine := size_ok (by omega)
@[simp] theorem size25 : (25 : Nat) ≤ sizeLine := size_ok (by omega)
@[simp] theorem size26 : (26 : Nat) ≤ sizeLine := size_ok (by omega)
@[simp] theorem size27 : (27 : Nat) ≤ sizeLine := size_ok (by omega)
@[simp] theorem size28 : (28 : Nat) ≤ sizeLine := size_ok (by omega)
@[simp] theorem size29 : (29 : Nat) ≤ sizeLine := size_ok (by omega)
@[simp] theorem size30 : (30 : Nat) ≤ sizeLine := size_ok (by omega)
@[simp] theorem size31 : (31 : Nat) ≤ sizeLine := size_ok (by omega)
@[simp] theorem size32 : (32 : Nat) ≤ sizeLine := size_ok (by omega)
@[simp] theorem size33 : (33 : Nat) ≤ sizeLine := size_ok (by omega)
@[simp] theorem size34 : (34 : Nat) ≤ sizeLine := size_ok (by omega)
@[simp] theorem size35 : (35 : Nat) ≤ sizeLine := size_ok (by omega)
@[simp] theorem size36 : (36 : Nat) ≤ sizeLine := size_ok (by omega)
@[simp] theorem size37 : (37 : Nat) ≤ sizeLine := size_ok (by omega)
@[simp] theorem size38 : (38 : Nat) ≤ sizeLine := size_ok (by omega)
@[simp] theorem size39 : (39 : Nat) ≤ sizeLine := size_ok (by omega)
@[simp] theorem size40 : (40 : Nat) ≤ sizeLine := size_ok (by omega)
@[simp] theorem sizeLt0 : (0 : Nat) < sizeLine := size_lt (by omega)
@[simp] theorem flatD_none : flatD .none = true := rfl
@[simp] theorem flatD_bool (b : Bool) : flatD (.bool b) = true := rfl
@[simp] theorem flatD_int (b : Int) : flatD (.int b) = true := rfl
@[simp] theorem flatD_str (b : Str) : flatD (.str b) = true := rfl
@[simp] theorem eqv_str (a b : Str) : PyData.eqv (.str a) (.str b) = (a == b) := by simp [PyData.eqv]
@[simp] theorem eqv_int (a b : Int) : PyData.eqv (.int a) (.int b) = (a == b) := by simp [PyData.eqv]
@[simp] theorem eqv_int_str (a : Int) (b : Str) : PyData.eqv (.int a) (.str b) = false := by simp [PyData.eqv]
@[simp] theorem eqv_str_int (a : Int) (b : Str) : PyData.eqv (.str b) (.int a) = false := by simp [PyData.eqv]
theorem inD_tup (x : D) (ys : List D) : inD x (.tuple ys) = if (flatD x && ys.all flatD) = true then some (ys.any fun y => PyData.eqv y x) else none := rfl
theorem inD_lst (x : D) (ys : List D) : inD x (.list ys) = if (flatD x && ys.all flatD || (SeqAt.shaped x && SeqAt.shaped (.list ys))) = true then some (ys.any fun y => PyData.eqv y x) else none := rfl
@[simp] theorem inD_str (x : Str) (ys : List D) (h : ys.all flatD = true) : inD (.str x) (.tuple ys) = some (ys.any fun y => PyData.eqv y (.str x)) := by
  rw [inD_tup, h]; rfl
@[simp] theorem inD_int (x : Int) (ys : List D) (h : ys.all flatD = true) : inD (.int x) (.tuple ys) = some (ys.any fun y => PyData.eqv y (.int x)) := by
  rw [inD_tup, h]; rfl
@[simp] theorem inD_strL (x : Str) (ys : List D) (h : ys.all flatD = true) : inD (.str x) (.list ys) = some (ys.any fun y => PyData.eqv y (.str x)) := by
  rw [inD_lst, h]; rfl
@[simp] theorem inD_intL (x : Int) (ys : List D) (h : ys.all flatD = true) : inD (.int x) (.list ys) = some (ys.any fun y => PyData.eqv y (.int x)) := by
  rw [inD_lst, h]; rfl
@[simp] theorem isa_int_int (x : Int) : isaD "int" (.int x) = true := rfl
@[simp] theorem isa_bool_int (x : Int) : isaD "bool" (.int x) = false := rfl
@[simp] theorem isa_str_int (x : Int) : isaD "str" (.int x) = false := rfl
@[simp] theorem isa_list_int (x : Int) : isaD "list" (.int x) = false := rfl
@[simp] theorem isa_tuple_int (x : Int) : isaD "tuple" (.int x) = false := rfl
@[simp] theorem isa_int_bool (x : Bool) : isaD "int" (.bool x) = true := rfl
@[simp] theorem isa_bool_bool (x : Bool) : isaD "bool" (.bool x) = true := rfl
@[simp] theorem isa_str_bool (x : Bool) : isaD "str" (.bool x) = false := rfl
@[simp] theorem isa_list_bool (x : Bool) : isaD "list" (.bool x) = false := rfl
@[simp] theorem isa_tuple_bool (x : Bool) : isaD "tuple" (.bool x) = false := rfl
@[simp] theorem isa_int_str (x : Str) : isaD "int" (.str x) = false := rfl
@[simp] theorem isa_bool_str (x : Str) : isaD "bool" (.str x) = false := rfl
@[simp] theorem isa_str_str (x : Str) : isaD "str" (.str x) = true := rfl
@[simp] theorem isa_list_str (x : Str) : isaD "list" (.str x) = false := rfl
@[simp] theorem isa_tuple_str (x : Str) : isaD "tuple" (.str x) = false := rfl
@[simp] theorem isa_int_list (x : List D) : isaD "int" (.list x) = false := rfl
@[simp] theorem isa_bool_list (x : List D) : isaD "bool" (.list x) = false := rfl
@[simp] theorem isa_str_list (x : List D) : isaD "str" (.list x) = false := rfl
@[simp] theorem isa_list_list (x : List D) : isaD "list" (.list x) = true := rfl
@[simp] theorem isa_tuple_list (x : List D) : isaD "tuple" (.list x) = false := rfl
@[simp] theorem isa_int_tuple (x : List D) : isaD "int" (.tuple x) = false := rfl
@[simp] theorem isa_bool_tuple (x : List D) : isaD "bool" (.tuple x) = false := rfl
@[simp] theorem isa_str_tuple (x : List D) : isaD "str" (.tuple x) = false := rfl
@[simp] theorem isa_list_tuple (x : List D) : isaD "list" (.tuple x) = false := rfl
@[simp] theorem isa_tuple_tuple (x : List D) : isaD "tuple" (.tuple x) = true := rfl
@[simp] theorem isa_none (t : String) (h : (t == "NoneType") = false) : isaD t .none = false := h
@[simp] theorem strOk_lit (s : String) : PyData.strOk (Str.ofString s) = true := by
  rw [Str.ofString_eq_toList]
  simp only [PyData.strOk, List.all_toArray, List.all_eq_true, List.mem_map, decide_eq_true_eq]
  rintro n ⟨c, _, rfl⟩
  have h := c.valid
  unfold UInt32.isValidChar Nat.isValidChar at h
  show c.val.toNat < _
  omega
@[simp] theorem shaped_str (x : Str) : SeqAt.shaped (.str x) = PyData.strOk x := by simp [SeqAt.shaped, PyData.canLay0, PyData.depth]
@[simp] theorem shaped_int (x : Int) : SeqAt.shaped (.int x) = true := by simp [SeqAt.shaped, PyData.canLay0, PyData.depth]
@[simp] theorem shaped_bool (x : Bool) : SeqAt.shaped (.bool x) = true := by simp [SeqAt.shaped, PyData.canLay0, PyData.depth]
@[simp] theorem shaped_none : SeqAt.shaped .none = true := by simp [SeqAt.shaped, PyData.canLay0, PyData.depth]
theorem eqD_sh {a b : D} (ha : SeqAt.shaped a = true) (hb : SeqAt.shaped b = true) : eqD a b = some (PyData.eqv a b) := by
  unfold eqD; rw [ha, hb]; simp
@[simp] theorem eqD_tuple_str (x : List D) (y : Str) (ha : SeqAt.shaped (.tuple x) = true) (hb : PyData.strOk y = true) : eqD (.tuple x) (.str y) = some false := by
  rw [eqD_sh ha (by rw [shaped_str]; exact hb)]; simp [PyData.eqv]
@[simp] theorem eqD_list_str (x : List D) (y : Str) (ha : SeqAt.shaped (.list x) = true) (hb : PyData.strOk y = true) : eqD (.list x) (.str y) = some false := by
  rw [eqD_sh ha (by rw [shaped_str]; exact hb)]; simp [PyData.eqv]
@[simp] theorem eqD_none_int (x : Int) : eqD .none (.int x) = some false := by simp [eqD, scalD, PyData.eqv]
@[simp] theorem eqD_int_none (x : Int) : eqD (.int x) .none = some false := by simp [eqD, scalD, PyData.eqv]
@[simp] theorem eqD_none_str (x : Str) : eqD .none (.str x) = some false := by simp [eqD, scalD, PyData.eqv]
@[simp] theorem eqD_str_none (x : Str) : eqD (.str x) .none = some false := by simp [eqD, scalD, PyData.eqv]
@[simp] theorem eqD_none_none : eqD .none .none = some true := by simp [eqD, scalD, PyData.eqv]
theorem log2_lt {x : Int} {k : Nat} (hk : 0 < k) (h : x.natAbs < 2 ^ k) : x.natAbs.log2 < k := PySem.Flt.log2_lt_of hk h
/-! comprehensions, walks, tries -/
@[simp] theorem noEr_ (m : M α) : noEr m cs = match m cs with
  | .ok a cs' => .ok a cs'
  | _ => .no := by
  unfold noEr
  cases m cs <;> rfl
@[simp] theorem eLc_ (it : List S → M (List D)) (tg : D → List S → Option (List S)) (t : List S → M Bool) (f : List S → M S) (vs : List Nat) : eLc it tg t f vs ρ cs = bnd (it ρ) (fun xs => lcL tg t f (wipeS ρ vs) xs []) cs := rfl
@[simp] theorem lcL_nil (tg : D → List S → Option (List S)) (t : List S → M Bool) (f : List S → M S) (acc : List D) : lcL tg t f ρ [] acc cs = .ok (.own (.lst acc)) cs := rfl
theorem lcL_cons (tg : D → List S → Option (List S)) (t : List S → M Bool) (f : List S → M S) (x : D) (xs acc : List D) : lcL tg t f ρ (x :: xs) acc cs = (match tg x ρ with
    | none => stuck
    | some ρ1 => bnd (noEr (t ρ1)) fun b => if b = true then bnd (noEr (f ρ1)) fun y => (match y with
        | .d d => if acc.length < sizeLine then lcL tg t f ρ xs (acc ++ [d]) else stuck
        | _ => stuck)
      else lcL tg t f ρ xs acc) cs := rfl
@[simp] theorem tYesM_ : tYesM ρ cs = .ok true cs := rfl
@[simp] theorem wipeS_nil : wipeS ρ [] = ρ := rfl
@[simp] theorem wipeS_cons (v : Nat) (vs : List Nat) : wipeS ρ (v :: vs) = (wipeS ρ vs).set v .no := rfl
@[simp] theorem iAnyM_ (f : List S → M S) : iAnyM f ρ cs = bnd (f ρ) (fun s => match s with
  | .d x => ofO (itD x)
  | _ => stuck) cs := rfl
@[simp] theorem itD_list (xs : List D) : itD (.list xs) = some xs := rfl
@[simp] theorem itD_tuple (xs : List D) : itD (.tuple xs) = some xs := rfl
@[simp] theorem itD_str (x : Str) : itD (.str x) = some (x.cps.toList.map chD) := rfl
/-- a comprehension whose parts leave the store as it is -/
theorem lcL_pure {tg : D → List S → Option (List S)} {t : List S → M Bool} {f : List S → M S} (ρx : D → List S) (p : D → Bool) (g : D → D) : ∀ (xs acc : List D), (∀ x ∈ xs, tg x ρ = some (ρx x) ∧ t (ρx x) cs = .ok (p x) cs ∧ (p x = true → f (ρx x) cs = .ok (.d (g x)) cs)) → acc.length + xs.length ≤ sizeLine →
    lcL tg t f ρ xs acc cs = .ok (.own (.lst (acc ++ (xs.filter p).map g))) cs
  | [], acc, _, _ => by simp
  | x :: xs, acc, h, hl => by
    obtain ⟨h1, h2, h3⟩ := h x (by simp)
    rw [List.length_cons] at hl
    rw [lcL_cons, h1]
    cases hp : p x with
    | false =>
      simp only [bnd_, noEr_, h2, hp, Bool.false_eq_true, if_false, List.filter_cons]
      exact lcL_pure ρx p g xs acc (fun y hy => h y (by simp [hy])) (by omega)
    | true =>
      have ih := lcL_pure ρx p g xs (acc ++ [g x]) (fun y hy => h y (by simp [hy])) (by simp; omega)
      have hlt : acc.length < sizeLine := by omega
      simp only [bnd_, noEr_, h2, h3 hp, hp, if_true, List.filter_cons, if_pos hlt, ih]
      simp
/-- a walk that ends as soon as a look fails -/
theorem gFor_all {tg : D → List S → Option (List S)} {body : G} (ok : D → Bool) (r : Rv) (P : List S → Prop) : ∀ (xs : List D) (ρ0 : List S), P ρ0 → (∀ x ∈ xs, ∀ ρ1, P ρ1 → ∃ ρ2, tg x ρ1 = some ρ2 ∧ ((ok x = true ∧ ∃ ρ3, body ρ2 cs = .nx ρ3 cs ∧ P ρ3) ∨ (ok x = false ∧ body ρ2 cs = .rt r cs))) →
    (xs.all ok = true ∧ ∃ ρ', gFor tg body xs ρ0 cs = .nx ρ' cs ∧ P ρ') ∨ (xs.all ok = false ∧ gFor tg body xs ρ0 cs = .rt r cs)
  | [], ρ0, h0, _ => .inl ⟨rfl, ρ0, rfl, h0⟩
  | x :: xs, ρ0, h0, h => by
    obtain ⟨ρ2, e1, ⟨e2, ρ3, e3, e4⟩ | ⟨e2, e3⟩⟩ := h x (by simp) ρ0 h0
    · rcases gFor_all ok r P xs ρ3 e4 (fun y hy => h y (by simp [hy])) with ⟨k1, ρ', k2, k3⟩ | ⟨k1, k2⟩
      · refine .inl ⟨by simp [e2, k1], ρ', ?_, k3⟩
        rw [gFor_cons, e1]
        simp only [e3, k2]
      · refine .inr ⟨by simp [e2, k1], ?_⟩
        rw [gFor_cons, e1]
        simp only [e3, k2]
    · refine .inr ⟨by simp [e2], ?_⟩
      rw [gFor_cons, e1]
      simp only [e3]
@[simp] theorem clr_nx (i : Nat) : clr i (.nx ρ cs) = .nx (ρ.set i .no) cs := rfl
@[simp] theorem clr_rt (i : Nat) (r : Rv) : clr i (.rt r cs) = .rt r cs := rfl
theorem hAs_of {i : Nat} {h : Str → Addr → G} {c : Str} {o : Out} (e : ∀ a, clr i (h c a (ρ.set i (.fn a)) cs) = o) : hAs i h c ρ cs = o := by
  unfold hAs
  rw [if_pos (fun a => (e a).trans (e 0).symm), e 0]
@[simp] theorem mulE_int (x y : Int) : mulE (.int x) (.int y) = mulD (.int x) (.int y) := rfl
@[simp] theorem mulE_tuple (xs : List D) (k : Int) : mulE (.tuple xs) (.int k) = if -1000000000 ≤ k ∧ k ≤ 1000000000 ∧ xs.length * k.toNat ≤ 1000000 then some (.tuple (List.replicate k.toNat xs).flatten) else none := rfl
@[simp] theorem mulE_list (xs : List D) (k : Int) : mulE (.list xs) (.int k) = if -1000000000 ≤ k ∧ k ≤ 1000000000 ∧ xs.length * k.toNat ≤ sizeLine then some (.list (List.replicate k.toNat xs).flatten) else none := rfl
@[simp] theorem addD_tuple (xs ys : List D) : addD (.tuple xs) (.tuple ys) = if xs.length + ys.length ≤ sizeLine then some (.tuple (xs ++ ys)) else none := rfl
@[simp] theorem addD_list (xs ys : List D) : addD (.list xs) (.list ys) = if xs.length + ys.length ≤ sizeLine then some (.list (xs ++ ys)) else none := rfl
@[simp] theorem addD_str (x y : Str) : addD (.str x) (.str y) = if x.length + y.length ≤ sizeLine then some (.str (x ++ y)) else none := rfl
@[simp] theorem lenSetG_list (xs : List D) : lenSetG [.list xs] = match kysD xs with
    | some ks => if ks.length < 4000 then some (.int (fmK ks).length) else none
    | none => none := rfl
@[simp] theorem strG_str (x : Str) : strG [.str x] = some (.str x) := rfl
@[simp] theorem strG_int (i : Int) : strG [.int i] = if i.natAbs.log2 < 1920 then some (.str (toString i)) else none := rfl
@[simp] theorem inD_ch (c : Nat) (z : Str) : inD (chD c) (.str z) = some (decide (c ∈ z.cps.toList)) := rfl
theorem ninD_eq (x y : D) : ninD x y = (inD x y).map (!·) := rfl
@[simp] theorem ninD_of {x y : D} {b : Bool} (h : inD x y = some b) : ninD x y = some (!b) := by rw [ninD_eq, h]; rfl
@[simp] theorem vwsM_c0 (xs : List D) (r : List S) (c : Store) : vwsM (.cel 0 :: r) (.lst xs :: c) = bnd (vwsM r) (fun ds => ret (.list xs :: ds)) (.lst xs :: c) := vwsM_cel r rfl
@[simp] theorem vwsM_c1 (o : OC) (xs : List D) (r : List S) (c : Store) : vwsM (.cel 1 :: r) (o :: .lst xs :: c) = bnd (vwsM r) (fun ds => ret (.list xs :: ds)) (o :: .lst xs :: c) := vwsM_cel r rfl
@[simp] theorem vwsM_c2 (o o2 : OC) (xs : List D) (r : List S) (c : Store) : vwsM (.cel 2 :: r) (o :: o2 :: .lst xs :: c) = bnd (vwsM r) (fun ds => ret (.list xs :: ds)) (o :: o2 :: .lst xs :: c) := vwsM_cel r rfl
end
end Dn

set_option Elab.async false
set_option linter.all false
set_option maxRecDepth 100000
set_option maxHeartbeats 1000000
/-! DnT: what the later mirrors come to, by simp. -/
namespace Dn
open PySem L2
section
variable {cs : Store} {ρ : List S} {i j : Nat}
@[simp] theorem sTgt_ (g : D → List S → Option (List S)) (f : List S → M S) : sTgt g f ρ cs = stp (f ρ) (fun s cs => match s with
  | .d x => match g x ρ with
    | some ρ' => .nx ρ' cs
    | none => .no
  | _ => .no) ρ cs := rfl
@[simp] theorem sPar_ (fa fb : List S → M S) : sPar i j fa fb ρ cs = stp (bnd (fa ρ) fun a => bnd (fb ρ) fun b => ret (a, b)) (fun p cs => .nx ((ρ.set i p.1).set j p.2) cs) ρ cs := rfl
@[simp] theorem eDic0_ : eDic0 ρ cs = .ok (.own (.dK [])) cs := rfl
@[simp] theorem dicM_c0 (kvs : List (Key × D)) (c : Store) : dicM (.cel 0) (.dK kvs :: c) = .ok (0, kvs) (.dK kvs :: c) := rfl
@[simp] theorem dicM_c1 (o : OC) (kvs : List (Key × D)) (c : Store) : dicM (.cel 1) (o :: .dK kvs :: c) = .ok (1, kvs) (o :: .dK kvs :: c) := rfl
@[simp] theorem keyM_str (x : Str) : keyM (.d (.str x)) = ret (Sum.inr x) := rfl
@[simp] theorem keyM_int (x : Int) : keyM (.d (.int x)) = ret (Sum.inl x) := rfl
@[simp] theorem eIxK_ (fo fi : List S → M S) : eIxK fo fi ρ cs = bnd (fo ρ) (fun o => bnd (fi ρ) fun i => bnd (dicM o) fun p => bnd (keyM i) fun k => bnd (ofO (dvK p.2 k)) fun d => ret (.d d)) cs := rfl
@[simp] theorem eGet2_ (fo fi fx : List S → M S) : eGet2 fo fi fx ρ cs = bnd (fo ρ) (fun o => bnd (dicM o) fun _ => bnd (fi ρ) fun i => bnd (fx ρ) fun x => bnd (dicM o) fun p => bnd (keyM i) fun k => match x with
  | .d z => ret (.d ((dvK p.2 k).getD z))
  | _ => stuck) cs := rfl
@[simp] theorem eGet1_ (fo fi : List S → M S) : eGet1 fo fi ρ cs = bnd (fo ρ) (fun o => bnd (dicM o) fun _ => bnd (fi ρ) fun i => bnd (dicM o) fun p => bnd (keyM i) fun k => ret (.d ((dvK p.2 k).getD .none))) cs := rfl
@[simp] theorem sSubK_ (fo fi fe : List S → M S) : sSubK fo fi fe ρ cs = stp (bnd (fe ρ) fun e => bnd (fo ρ) fun o => bnd (fi ρ) fun i => bnd (dicM o) fun p => bnd (keyM i) fun k => match e with
  | .d x => if p.2.length < sizeLine then putM p.1 (.dK (dpK p.2 k x)) else stuck
  | _ => stuck) (fun _ cs => .nx ρ cs) ρ cs := rfl
@[simp] theorem eLenK_ (fo : List S → M S) : eLenK fo ρ cs = bnd (fo ρ) (fun o => bnd (dicM o) fun p => ret (.d (.int p.2.length))) cs := rfl
@[simp] theorem eSortK_ (fo : List S → M S) : eSortK fo ρ cs = bnd (fo ρ) (fun o => bnd (dicM o) fun p => match sortKT (p.2.map (·.1)) with
  | some ks => if ks.length < 64 then ret (.d (.list ((sortT ks).map .str))) else stuck
  | none => stuck) cs := rfl
@[simp] theorem gtT_ (gs : List D → List S → Option (List S)) (xs : List D) : gtT gs (.tuple xs) ρ = gs xs ρ := rfl
@[simp] theorem gtsNil_ : gtsNil [] ρ = some ρ := rfl
@[simp] theorem gtsCons_ (g : D → List S → Option (List S)) (gs : List D → List S → Option (List S)) (x : D) (r : List D) : gtsCons g gs (x :: r) ρ = (g x ρ).bind (gs r) := rfl
theorem sortedSetG_list (xs : List D) : sortedSetG [.list xs] = srtSD xs := rfl
theorem sortedSetG_tuple (xs : List D) : sortedSetG [.tuple xs] = srtSD xs := rfl
/-! texts, each once, in their order -/
theorem kysD_txt : ∀ xs : List Str, kysD (xs.map .str) = some (xs.map Sum.inr)
  | [] => rfl
  | x :: xs => by
    show (match kyD (.str x), kysD (xs.map .str) with
      | some k, some ks => some (k :: ks)
      | _, _ => none) = _
    rw [kysD_txt xs]; rfl
def uqS (l xs : List Str) : List Str := xs.foldl (fun l x => if x ∈ l then l else l ++ [x]) l
theorem fm_uq : ∀ (xs l : List Str), (xs.map Sum.inr).foldl dd1 (l.map Sum.inr) = (uqS l xs).map Sum.inr
  | [], l => rfl
  | x :: xs, l => by
    have hm : mK (l.map Sum.inr) (Sum.inr x) = true ↔ x ∈ l := by rw [mK_iff]; simp
    have e : dd1 (l.map Sum.inr) (Sum.inr x) = (if x ∈ l then l else l ++ [x]).map Sum.inr := by
      unfold dd1
      by_cases h : x ∈ l
      · rw [if_pos (hm.2 h), if_pos h]
      · rw [if_neg (fun z => h (hm.1 z)), if_neg h]; simp
    rw [List.map_cons, List.foldl_cons, e, fm_uq xs]
    rfl
theorem uq_nodup : ∀ (xs l : List Str), l.Nodup → (uqS l xs).Nodup
  | [], l, h => h
  | x :: xs, l, h => by
    show (uqS (if x ∈ l then l else l ++ [x]) xs).Nodup
    refine uq_nodup xs _ ?_
    by_cases c : x ∈ l
    · rw [if_pos c]; exact h
    · rw [if_neg c]
      exact (List.perm_append_singleton x l).nodup_iff.2 (List.nodup_cons.2 ⟨c, h⟩)
theorem uq_mem : ∀ (xs l : List Str) (y : Str), y ∈ uqS l xs ↔ y ∈ l ∨ y ∈ xs
  | [], l, y => by simp [uqS]
  | x :: xs, l, y => by
    have ih := uq_mem xs (if x ∈ l then l else l ++ [x]) y
    have e : uqS l (x :: xs) = uqS (if x ∈ l then l else l ++ [x]) xs := rfl
    rw [e, ih]
    by_cases c : x ∈ l
    · rw [if_pos c, List.mem_cons]
      exact ⟨fun z => z.elim .inl fun q => .inr (.inr q), fun z => z.elim .inl fun q => q.elim (fun e => .inl (e ▸ c)) .inr⟩
    · rw [if_neg c, List.mem_append, List.mem_singleton, List.mem_cons, or_assoc]
theorem uq_self : ∀ (xs l : List Str), (l ++ xs).Nodup → uqS l xs = l ++ xs
  | [], l, h => by simp [uqS]
  | x :: xs, l, h => by
    have c : ¬ x ∈ l := fun z => by
      rw [List.nodup_append] at h
      exact absurd rfl (h.2.2 x z x (by simp))
    show uqS (if x ∈ l then l else l ++ [x]) xs = _
    rw [if_neg c, uq_self xs (l ++ [x]) (by simpa using h)]
    simp
theorem uq_len : ∀ (xs l : List Str), (uqS l xs).length ≤ l.length + xs.length
  | [], l => Nat.le_refl _
  | x :: xs, l => by
    have ih := uq_len xs (if x ∈ l then l else l ++ [x])
    have e : (if x ∈ l then l else l ++ [x]).length ≤ l.length + 1 := by split <;> simp
    show (uqS (if x ∈ l then l else l ++ [x]) xs).length ≤ _
    rw [List.length_cons]; omega
theorem sortKT_map : ∀ ys : List Str, sortKT (ys.map Sum.inr) = some ys
  | [] => rfl
  | y :: ys => by
    show (sortKT (ys.map Sum.inr)).map (y :: ·) = _
    rw [sortKT_map ys]; rfl
theorem sortK_txt (ys : List Str) : (sortK (ys.map Sum.inr)).map (fun p => PyData.list p.2) = some (.list ((sortT ys).map .str)) := by
  cases ys with
  | nil => rfl
  | cons y ys =>
    have e1 : sortKI ((y :: ys).map Sum.inr) = none := rfl
    unfold sortK
    rw [e1, sortKT_map]; rfl
theorem srt_txt {xs : List Str} (h : xs.length < 4000) : srtSD (xs.map .str) = some (.list ((sortT (uqS [] xs)).map .str)) := by
  have e : fmK (xs.map Sum.inr) = (uqS [] xs).map Sum.inr := fm_uq xs []
  have hl : (xs.map (Sum.inr : Str → Key)).length < 4000 := by simpa using h
  unfold srtSD
  rw [kysD_txt]
  simp only [if_pos hl]
  rw [e, sortK_txt]
end
end Dn

set_option Elab.async false
set_option linter.all false
set_option maxRecDepth 100000
set_option maxHeartbeats 1000000
/-! DnU: simp facts of calls that look at cells. -/
namespace Dn
open PySem L2
section
variable {ρ : List S} {cs : Store}
@[simp] theorem eCallV_ (F : List S → M Rv) (g : List S → M (List S)) : eCallV F g ρ cs = bnd (g ρ) (callV F) cs := rfl
@[simp] theorem seeS_nil : seeS cs [] = some [] := rfl
@[simp] theorem seeS_d (x : D) (r : List S) : seeS cs (.d x :: r) = (seeS cs r).map (.d x :: ·) := rfl
@[simp] theorem seeS_cel (j : Nat) (r : List S) : seeS cs (.cel j :: r) = (match cs[j]? with
    | some (.lst xs) => (seeS cs r).map (.d (.list xs) :: ·)
    | _ => none) := rfl
@[simp] theorem nlD_int (i : Int) : nlD (.int i) = true := rfl
@[simp] theorem nlD_str (i : Str) : nlD (.str i) = true := rfl
@[simp] theorem nlD_bool (i : Bool) : nlD (.bool i) = true := rfl
@[simp] theorem nlD_none : nlD .none = true := rfl
@[simp] theorem nlD_tuple (xs : List D) : nlD (.tuple xs) = nlDs xs := rfl
@[simp] theorem nlDs_nil : nlDs [] = true := rfl
@[simp] theorem nlDs_cons (x : D) (xs : List D) : nlDs (x :: xs) = (nlD x && nlDs xs) := rfl
theorem nlDs_all : ∀ {xs : List D}, (∀ x ∈ xs, nlD x = true) → nlDs xs = true
  | [], _ => rfl
  | x :: xs, h => by rw [nlDs_cons, h x (by simp), nlDs_all fun y hy => h y (by simp [hy])]; rfl
theorem callV_own {F : List S → M Rv} {ss tt : List S} {xs : List D} {cs' : Store} (h1 : seeS cs ss = some tt) (h2 : F tt [] = .ok (.own (.lst xs)) cs') (h3 : nlDs xs = true) : callV F ss cs = .ok (.own (.lst xs)) cs := by
  unfold callV; rw [h1]; simp only [h2, h3, if_true]
theorem callV_d {F : List S → M Rv} {ss tt : List S} {x : D} {cs' : Store} (h1 : seeS cs ss = some tt) (h2 : F tt [] = .ok (.d x) cs') (h3 : nlD x = true) : callV F ss cs = .ok (.d x) cs := by
  unfold callV; rw [h1]; simp only [h2, h3, if_true]
end
end Dn

set_option Elab.async false
set_option linter.all false
set_option maxRecDepth 100000
set_option maxHeartbeats 4000000
namespace Law
open PySem L2 Dn
noncomputable section
def exKnown (c : PySem.Str) : Bool := c == "WhatbefellError" || (c == "BadWords")
def exSub_BadWords (c : PySem.Str) : Bool := c == "BadWords"
def exSub_WhatbefellError (c : PySem.Str) : Bool := c == "WhatbefellError" || (c == "BadWords")
def B_is_number : G :=
    (sRet (eRv (eAndM (eIsa "int" (eV 0)) (eAndM (eNotM (eIsa "bool" (eV 0))) (eChn leD leD (eV 1) (eV 0) (eV 2))))))
def F_is_number : List S → M Rv := runG 0 B_is_number
def B_is_name : G :=
    (gSeq (sIf (tOrM (tNotM (tT (eIsa "str" (eV 0)))) (tOrM (tNotM (tChn leD leD (eC (.int (1))) (eCd lenG (aCons (eV 0) aNil)) (eC (.int (8))))) (op2 ninD (eBin ixD (eV 0) (eC (.int (0)))) (eC (.str "abcdefghijklmnopqrstuvwxyz"))))) (sRet (eRv (eC (.bool false)))) gNil)
    (sRet (eRv (eCmp eqD (eFrz (eLc (iAnyM (eV 0)) (gtN 1) (tAndM (op2 ninD (eV 1) (eC (.str "abcdefghijklmnopqrstuvwxyz"))) (op2 ninD (eV 1) (eC (.str "0123456789")))) (eV 1) [1])) (eFrz (eLst aNil))))))
def F_is_name : List S → M Rv := runG 1 B_is_name
def B_is_day : G :=
    (sRet (eCall F_is_number (aCons (eV 0) (aCons (eC (.int (0))) (aCons (eC (.int (36500))) aNil)))))
def F_is_day : List S → M Rv := runG 0 B_is_day
def B_is_money : G :=
    (sRet (eCall F_is_number (aCons (eV 0) (aCons (eC (.int (0))) (aCons (eC (.int (1000000000000))) aNil)))))
def F_is_money : List S → M Rv := runG 0 B_is_money
def B_is_tuple : G :=
    (sRet (eRv (eAndM (eIsa "tuple" (eV 0)) (eChn leD leD (eV 1) (eCd lenG (aCons (eV 0) aNil)) (eV 2)))))
def F_is_tuple : List S → M Rv := runG 0 B_is_tuple
def B_are_unlike : G :=
    (sRet (eRv (eCmp eqD (eCd lenSetG (aCons (eV 0) aNil)) (eCd lenG (aCons (eV 0) aNil)))))
def F_are_unlike : List S → M Rv := runG 0 B_are_unlike
def B_constant : G :=
    (sRet (eLst (aCons (eTup (aCons (eC (.int (0))) (aCons (eC (.int (1000000000000))) (aCons (eC (.int (0))) (aCons (eV 0) aNil))))) aNil)))
def F_constant : List S → M Rv := runG 0 B_constant
def B_itself : G :=
    (sRet (eLst (aCons (eTup (aCons (eC (.int (0))) (aCons (eC (.int (1000000000000))) (aCons (eC (.int (1))) (aCons (eC (.int (0))) aNil))))) aNil)))
def F_itself : List S → M Rv := runG 0 B_itself
def B_joined : G :=
    (gSeq (sNew 1 (eLst aNil))
    (gSeq (sFor (gtT (gtsCons (gtN 2) (gtsCons (gtN 3) (gtsCons (gtN 4) (gtsCons (gtN 5) gtsNil))))) (iAnyM (eV 0)) (gSeq (sSet 4 (eIf (op2 gtD (eV 3) (eV 2)) (eV 4) (eC (.int (0)))))
      (gSeq (sIf (tT (eV 1)) (gSeq (sTgt (gtT (gtsCons (gtN 6) (gtsCons (gtN 7) (gtsCons (gtN 8) (gtsCons (gtN 9) gtsNil))))) (eBin ixD (eV 1) (eBin subD (eCd lenG (aCons (eV 1) aNil)) (eC (.int (1))))))
        (sIf (tAndM (op2 eqD (eV 8) (eV 4)) (op2 eqD (eBin addD (eV 9) (eBin mulD (eV 4) (eBin subD (eV 2) (eV 6)))) (eV 5))) (gSeq (sSub (eV 1) (eBin subD (eCd lenG (aCons (eV 1) aNil)) (eC (.int (1)))) (eTup (aCons (eV 6) (aCons (eV 3) (aCons (eV 4) (aCons (eV 9) aNil))))))
          gCon) gNil)) gNil)
      (sExp (eMt appG (eV 1) (aCons (eTup (aCons (eV 2) (aCons (eV 3) (aCons (eV 4) (aCons (eV 5) aNil))))) aNil))))))
    (sRet (eRv (eV 1)))))
def F_joined : List S → M Rv := runG 9 B_joined
def B_cut : G :=
    (gSeq (sNew 3 (eLst aNil))
    (gSeq (sFor (gtT (gtsCons (gtN 4) (gtsCons (gtN 5) (gtsCons (gtN 6) (gtsCons (gtN 7) gtsNil))))) (iAnyM (eV 0)) (sIf (tAndM (op2 leD (eV 4) (eV 2)) (op2 geD (eV 5) (eV 1))) (gSeq (sSet 8 (eCd maxG (aCons (eV 4) (aCons (eV 1) aNil))))
        (sExp (eMt appG (eV 3) (aCons (eTup (aCons (eV 8) (aCons (eCd minG (aCons (eV 5) (aCons (eV 2) aNil))) (aCons (eV 6) (aCons (eBin addD (eV 7) (eBin mulD (eV 6) (eBin subD (eV 8) (eV 4)))) aNil))))) aNil)))) gNil))
    (sRet (eRv (eV 3)))))
def F_cut : List S → M Rv := runG 6 B_cut
def B_paired : G :=
    (gSeq (sNew 2 (eLst aNil))
    (gSeq (sSet 3 (eC (.int (0))))
    (gSeq (sSet 4 (eC (.int (0))))
    (gSeq (sWhile (fun _ _ => 10000000) (tAndM (op2 ltD (eV 3) (eCd lenG (aCons (eV 0) aNil))) (op2 ltD (eV 4) (eCd lenG (aCons (eV 1) aNil)))) (gSeq (sSet 5 (eCd maxG (aCons (eBin ixD (eBin ixD (eV 0) (eV 3)) (eC (.int (0)))) (aCons (eBin ixD (eBin ixD (eV 1) (eV 4)) (eC (.int (0)))) aNil))))
      (gSeq (sSet 6 (eCd minG (aCons (eBin ixD (eBin ixD (eV 0) (eV 3)) (eC (.int (1)))) (aCons (eBin ixD (eBin ixD (eV 1) (eV 4)) (eC (.int (1)))) aNil))))
      (gSeq (sSet 7 (eBin addD (eBin ixD (eBin ixD (eV 0) (eV 3)) (eC (.int (3)))) (eBin mulD (eBin ixD (eBin ixD (eV 0) (eV 3)) (eC (.int (2)))) (eBin subD (eV 5) (eBin ixD (eBin ixD (eV 0) (eV 3)) (eC (.int (0))))))))
      (gSeq (sSet 8 (eBin addD (eBin ixD (eBin ixD (eV 1) (eV 4)) (eC (.int (3)))) (eBin mulD (eBin ixD (eBin ixD (eV 1) (eV 4)) (eC (.int (2)))) (eBin subD (eV 5) (eBin ixD (eBin ixD (eV 1) (eV 4)) (eC (.int (0))))))))
      (gSeq (sExp (eMt appG (eV 2) (aCons (eTup (aCons (eV 5) (aCons (eV 6) (aCons (eBin ixD (eBin ixD (eV 0) (eV 3)) (eC (.int (2)))) (aCons (eV 7) (aCons (eBin ixD (eBin ixD (eV 1) (eV 4)) (eC (.int (2)))) (aCons (eV 8) aNil))))))) aNil)))
      (gSeq (sIf (op2 eqD (eBin ixD (eBin ixD (eV 0) (eV 3)) (eC (.int (1)))) (eV 6)) (sSet 3 (eBin addD (eV 3) (eC (.int (1))))) gNil)
      (sIf (op2 eqD (eBin ixD (eBin ixD (eV 1) (eV 4)) (eC (.int (1)))) (eV 6)) (sSet 4 (eBin addD (eV 4) (eC (.int (1))))) gNil))))))))
    (sRet (eRv (eV 2)))))))
def F_paired : List S → M Rv := runG 7 B_paired
def B_added : G :=
    (gSeq (sSet 3 (eFrz (eLc (iAnyM (eFrz (eCall F_paired (aCons (eV 0) (aCons (eV 1) aNil))))) (gtT (gtsCons (gtN 4) (gtsCons (gtN 5) (gtsCons (gtN 6) (gtsCons (gtN 7) (gtsCons (gtN 8) (gtsCons (gtN 9) gtsNil))))))) tYesM (eTup (aCons (eV 4) (aCons (eV 5) (aCons (eBin addD (eV 6) (eBin mulD (eV 2) (eV 8))) (aCons (eBin addD (eV 7) (eBin mulD (eV 2) (eV 9))) aNil))))) [4, 5, 6, 7, 8, 9])))
    (sRet (eCall F_joined (aCons (eV 3) aNil))))
def F_added : List S → M Rv := runG 7 B_added
def B_multiplied : G :=
    (sRet (eCall F_joined (aCons (eFrz (eLc (iAnyM (eV 0)) (gtT (gtsCons (gtN 2) (gtsCons (gtN 3) (gtsCons (gtN 4) (gtsCons (gtN 5) gtsNil))))) tYesM (eTup (aCons (eV 2) (aCons (eV 3) (aCons (eBin mulD (eV 4) (eV 1)) (aCons (eBin mulD (eV 5) (eV 1)) aNil))))) [2, 3, 4, 5])) aNil)))
def F_multiplied : List S → M Rv := runG 4 B_multiplied
def B_lesser : G :=
    (gSeq (sNew 2 (eLst aNil))
    (gSeq (sFor (gtT (gtsCons (gtN 3) (gtsCons (gtN 4) (gtsCons (gtN 5) (gtsCons (gtN 6) (gtsCons (gtN 7) (gtsCons (gtN 8) gtsNil))))))) (iAnyM (eFrz (eCall F_paired (aCons (eV 0) (aCons (eV 1) aNil))))) (gSeq (sSet 9 (eCmp leD (eV 6) (eV 8)))
      (gSeq (sSet 10 (eCmp leD (eBin addD (eV 6) (eBin mulD (eV 5) (eBin subD (eV 4) (eV 3)))) (eBin addD (eV 8) (eBin mulD (eV 7) (eBin subD (eV 4) (eV 3))))))
      (sIf (tAndM (tT (eV 9)) (tT (eV 10))) (sExp (eMt appG (eV 2) (aCons (eTup (aCons (eV 3) (aCons (eV 4) (aCons (eV 5) (aCons (eV 6) aNil))))) aNil))) (sIf (tAndM (tNotM (tT (eV 9))) (tNotM (tT (eV 10)))) (sExp (eMt appG (eV 2) (aCons (eTup (aCons (eV 3) (aCons (eV 4) (aCons (eV 7) (aCons (eV 8) aNil))))) aNil))) (gSeq (sSet 11 (eIf (tT (eV 9)) (eBin fdivD (eCd absG (aCons (eBin subD (eV 8) (eV 6)) aNil)) (eCd absG (aCons (eBin subD (eV 5) (eV 7)) aNil))) (eBin fdivD (eBin subD (eCd absG (aCons (eBin subD (eV 8) (eV 6)) aNil)) (eC (.int (1)))) (eCd absG (aCons (eBin subD (eV 5) (eV 7)) aNil)))))
          (gSeq (sSet 12 (eBin addD (eV 3) (eV 11)))
          (sIf (tT (eV 9)) (gSeq (sExp (eMt appG (eV 2) (aCons (eTup (aCons (eV 3) (aCons (eV 12) (aCons (eV 5) (aCons (eV 6) aNil))))) aNil)))
            (sExp (eMt appG (eV 2) (aCons (eTup (aCons (eBin addD (eV 12) (eC (.int (1)))) (aCons (eV 4) (aCons (eV 7) (aCons (eBin addD (eV 8) (eBin mulD (eV 7) (eBin addD (eV 11) (eC (.int (1)))))) aNil))))) aNil)))) (gSeq (sExp (eMt appG (eV 2) (aCons (eTup (aCons (eV 3) (aCons (eV 12) (aCons (eV 7) (aCons (eV 8) aNil))))) aNil)))
            (sExp (eMt appG (eV 2) (aCons (eTup (aCons (eBin addD (eV 12) (eC (.int (1)))) (aCons (eV 4) (aCons (eV 5) (aCons (eBin addD (eV 6) (eBin mulD (eV 5) (eBin addD (eV 11) (eC (.int (1)))))) aNil))))) aNil))))))))))))
    (sRet (eCallV F_joined (aCons (eV 2) aNil)))))
def F_lesser : List S → M Rv := runG 11 B_lesser
def B_greater : G :=
    (sRet (eCall F_multiplied (aCons (eFrz (eCall F_lesser (aCons (eFrz (eCall F_multiplied (aCons (eV 0) (aCons (eNeg (eC (.int (1)))) aNil)))) (aCons (eFrz (eCall F_multiplied (aCons (eV 1) (aCons (eNeg (eC (.int (1)))) aNil)))) aNil)))) (aCons (eNeg (eC (.int (1)))) aNil))))
def F_greater : List S → M Rv := runG 0 B_greater
def B_chosen : G :=
    (gSeq (sSet 4 (eIf (op2 gtD (eV 0) (eC (.int (0)))) (eFrz (eCall F_cut (aCons (eV 3) (aCons (eC (.int (0))) (aCons (eBin subD (eV 0) (eC (.int (1)))) aNil))))) (eFrz (eLst aNil))))
    (gSeq (sSet 4 (eBin addD (eV 4) (eFrz (eCall F_cut (aCons (eV 2) (aCons (eV 0) (aCons (eV 1) aNil)))))))
    (gSeq (sIf (op2 ltD (eV 1) (eC (.int (1000000000000)))) (sSet 4 (eBin addD (eV 4) (eFrz (eCall F_cut (aCons (eV 3) (aCons (eBin addD (eV 1) (eC (.int (1)))) (aCons (eC (.int (1000000000000))) aNil))))))) gNil)
    (sRet (eCall F_joined (aCons (eV 4) aNil))))))
def F_chosen : List S → M Rv := runG 1 B_chosen
def B_least_value : G :=
    (sRet (eRv (eCd minLG (aCons (eFrz (eLc (iAnyM (eV 0)) (gtT (gtsCons (gtN 1) (gtsCons (gtN 2) (gtsCons (gtN 3) (gtsCons (gtN 4) gtsNil))))) tYesM (eCd minG (aCons (eV 4) (aCons (eBin addD (eV 4) (eBin mulD (eV 3) (eBin subD (eV 2) (eV 1)))) aNil))) [1, 2, 3, 4])) aNil))))
def F_least_value : List S → M Rv := runG 4 B_least_value
def B_greatest_value : G :=
    (sRet (eRv (eCd maxLG (aCons (eFrz (eLc (iAnyM (eV 0)) (gtT (gtsCons (gtN 1) (gtsCons (gtN 2) (gtsCons (gtN 3) (gtsCons (gtN 4) gtsNil))))) tYesM (eCd maxG (aCons (eV 4) (aCons (eBin addD (eV 4) (eBin mulD (eV 3) (eBin subD (eV 2) (eV 1)))) aNil))) [1, 2, 3, 4])) aNil))))
def F_greatest_value : List S → M Rv := runG 4 B_greatest_value
def B_value_at : G :=
    (gSeq (sFor (gtT (gtsCons (gtN 2) (gtsCons (gtN 3) (gtsCons (gtN 4) (gtsCons (gtN 5) gtsNil))))) (iAnyM (eV 0)) (sIf (tChn leD leD (eV 2) (eV 1) (eV 3)) (sRet (eRv (eBin addD (eV 5) (eBin mulD (eV 4) (eBin subD (eV 1) (eV 2)))))) gNil))
    (sRet (eRv (eC (.int (0))))))
def F_value_at : List S → M Rv := runG 4 B_value_at
def B_is_gentle : G :=
    (gSeq (sIf (op2 neD (eBin ixD (eBin ixD (eV 0) (eC (.int (0)))) (eC (.int (3)))) (eC (.int (0)))) (sRet (eRv (eC (.bool false)))) gNil)
    (gSeq (sFor (gtN 1) (iRng (eCd lenG (aCons (eV 0) aNil))) (gSeq (sTgt (gtT (gtsCons (gtN 2) (gtsCons (gtN 3) (gtsCons (gtN 4) (gtsCons (gtN 5) gtsNil))))) (eBin ixD (eV 0) (eV 1)))
      (gSeq (sIf (tAndM (op2 gtD (eV 3) (eV 2)) (op2 ninD (eV 4) (eTup (aCons (eC (.int (0))) (aCons (eC (.int (1))) aNil))))) (sRet (eRv (eC (.bool false)))) gNil)
      (sIf (tAndM (op2 gtD (eV 1) (eC (.int (0)))) (op2 ninD (eBin subD (eV 5) (eFrz (eCall F_value_at (aCons (eFrz (eLst (aCons (eBin ixD (eV 0) (eBin subD (eV 1) (eC (.int (1))))) aNil))) (aCons (eBin ixD (eBin ixD (eV 0) (eBin subD (eV 1) (eC (.int (1))))) (eC (.int (1)))) aNil))))) (eTup (aCons (eC (.int (0))) (aCons (eC (.int (1))) aNil))))) (sRet (eRv (eC (.bool false)))) gNil))))
    (sRet (eRv (eC (.bool true))))))
def F_is_gentle : List S → M Rv := runG 5 B_is_gentle
def B_are_names : G :=
    (sRet (eRv (eAndM (eFrz (eCall F_is_tuple (aCons (eV 0) (aCons (eC (.int (1))) (aCons (eC (.int (12))) aNil))))) (eCmp eqD (eFrz (eLc (iAnyM (eV 0)) (gtN 1) (tNotM (tT (eFrz (eCall F_is_name (aCons (eV 1) aNil))))) (eV 1) [1])) (eFrz (eLst aNil))))))
def F_are_names : List S → M Rv := runG 1 B_are_names
def B_conditions_in : G :=
    (gSeq (sIf (tOrM (tNotM (tT (eIsa "tuple" (eV 0)))) (tOrM (op2 ltD (eCd lenG (aCons (eV 0) aNil)) (eC (.int (1)))) (tNotM (tT (eIsa "str" (eBin ixD (eV 0) (eC (.int (0))))))))) (sRet (eRv (eC .none))) gNil)
    (gSeq (sSet 1 (eBin ixD (eV 0) (eC (.int (0)))))
    (gSeq (sSet 2 (eSl (eV 0) (oSome (eC (.int (1)))) oNone))
    (gSeq (sIf (op2 eqD (eV 1) (eC (.str "always"))) (sSet 3 (eCmp eqD (eCd lenG (aCons (eV 2) aNil)) (eC (.int (0))))) (sIf (op2 inD (eV 1) (eTup (aCons (eC (.str "peril")) (aCons (eC (.str "place")) (aCons (eC (.str "object")) aNil))))) (sSet 3 (eFrz (eCall F_are_names (aCons (eV 2) aNil)))) (sIf (op2 eqD (eV 1) (eC (.str "day"))) (sSet 3 (eAndM (eCmp eqD (eCd lenG (aCons (eV 2) aNil)) (eC (.int (2)))) (eAndM (eFrz (eCall F_is_day (aCons (eBin ixD (eV 2) (eC (.int (0)))) aNil))) (eAndM (eFrz (eCall F_is_day (aCons (eBin ixD (eV 2) (eC (.int (1)))) aNil))) (eCmp leD (eBin ixD (eV 2) (eC (.int (0)))) (eBin ixD (eV 2) (eC (.int (1))))))))) (sIf (op2 eqD (eV 1) (eC (.str "noticed"))) (sSet 3 (eAndM (eCmp eqD (eCd lenG (aCons (eV 2) aNil)) (eC (.int (1)))) (eFrz (eCall F_is_number (aCons (eBin ixD (eV 2) (eC (.int (0)))) (aCons (eC (.int (0))) (aCons (eC (.int (6000))) aNil))))))) (sIf (op2 eqD (eV 1) (eC (.str "says"))) (sSet 3 (eAndM (eCmp eqD (eCd lenG (aCons (eV 2) aNil)) (eC (.int (1)))) (eFrz (eCall F_is_name (aCons (eBin ixD (eV 2) (eC (.int (0)))) aNil))))) (sIf (tOrM (tAndM (op2 eqD (eV 1) (eC (.str "not"))) (op2 eqD (eCd lenG (aCons (eV 2) aNil)) (eC (.int (1))))) (tAndM (op2 inD (eV 1) (eTup (aCons (eC (.str "and")) (aCons (eC (.str "or")) aNil)))) (tChn leD leD (eC (.int (1))) (eCd lenG (aCons (eV 2) aNil)) (eC (.int (12)))))) (sRet (eRv (eCd listG (aCons (eV 2) aNil)))) (sSet 3 (eC (.bool false)))))))))
    (sRet (eRv (eIf (tT (eV 3)) (eFrz (eLst aNil)) (eC .none))))))))
def F_conditions_in : List S → M Rv := runG 3 B_conditions_in
def B_pays_in : G :=
    (gSeq (sIf (tT (eIsa "str" (eV 0))) (sRet (eRv (eIf (tOrM (op2 eqD (eV 0) (eC (.str "loss"))) (op2 eqD (eV 0) (eC (.str "sum")))) (eFrz (eLst aNil)) (eC .none)))) gNil)
    (gSeq (sIf (tT (eFrz (eCall F_is_money (aCons (eV 0) aNil)))) (sRet (eLst aNil)) gNil)
    (gSeq (sIf (tOrM (tNotM (tT (eIsa "tuple" (eV 0)))) (tOrM (op2 ltD (eCd lenG (aCons (eV 0) aNil)) (eC (.int (3)))) (tNotM (tT (eIsa "str" (eBin ixD (eV 0) (eC (.int (0))))))))) (sRet (eRv (eC .none))) gNil)
    (gSeq (sSet 1 (eBin ixD (eV 0) (eC (.int (0)))))
    (gSeq (sIf (tAndM (op2 inD (eV 1) (eTup (aCons (eC (.str "plus")) (aCons (eC (.str "minus")) (aCons (eC (.str "min")) (aCons (eC (.str "max")) aNil)))))) (op2 eqD (eCd lenG (aCons (eV 0) aNil)) (eC (.int (3))))) (sRet (eRv (eCd listG (aCons (eSl (eV 0) (oSome (eC (.int (1)))) oNone) aNil)))) gNil)
    (gSeq (sIf (tAndM (op2 eqD (eV 1) (eC (.str "times"))) (tAndM (op2 eqD (eCd lenG (aCons (eV 0) aNil)) (eC (.int (3)))) (tT (eFrz (eCall F_is_number (aCons (eBin ixD (eV 0) (eC (.int (1)))) (aCons (eC (.int (0))) (aCons (eC (.int (1000))) aNil)))))))) (sRet (eLst (aCons (eBin ixD (eV 0) (eC (.int (2)))) aNil))) gNil)
    (gSeq (sIf (tAndM (op2 eqD (eV 1) (eC (.str "over"))) (tAndM (op2 eqD (eCd lenG (aCons (eV 0) aNil)) (eC (.int (4)))) (tAndM (tT (eFrz (eCall F_is_money (aCons (eBin ixD (eV 0) (eC (.int (2)))) aNil)))) (tT (eFrz (eCall F_is_money (aCons (eBin ixD (eV 0) (eC (.int (3)))) aNil))))))) (sRet (eLst (aCons (eBin ixD (eV 0) (eC (.int (1)))) aNil))) gNil)
    (gSeq (sIf (tAndM (op2 eqD (eV 1) (eC (.str "if"))) (tAndM (op2 eqD (eCd lenG (aCons (eV 0) aNil)) (eC (.int (5)))) (tAndM (tT (eFrz (eCall F_is_money (aCons (eBin ixD (eV 0) (eC (.int (1)))) aNil)))) (tAndM (tT (eFrz (eCall F_is_money (aCons (eBin ixD (eV 0) (eC (.int (2)))) aNil)))) (op2 leD (eBin ixD (eV 0) (eC (.int (1)))) (eBin ixD (eV 0) (eC (.int (2))))))))) (sRet (eRv (eCd listG (aCons (eSl (eV 0) (oSome (eC (.int (3)))) oNone) aNil)))) gNil)
    (sRet (eRv (eC .none)))))))))))
def F_pays_in : List S → M Rv := runG 1 B_pays_in
def B_are_few__conditions_in (K : PySem.W.Frag) : G :=
    (gSeq (sNew 2 (eLst (aCons (eV 0) aNil)))
    (gSeq (sSet 3 (eC (.int (0))))
    (gSeq (sWhile (fun _ _ => 100) (tAndM (tT (eV 2)) (op2 leD (eV 3) (eC (.int (60))))) (gSeq (sSet 4 (eFrz (eCallL 1 (He.ga K "conditions_in") F_conditions_in (aCons (eMt0 popG (eV 2)) aNil))))
      (gSeq (sIf (op1 isnD (eV 4)) (sRet (eRv (eC (.bool false)))) gNil)
      (gSeq (sSet 3 (eBin addD (eV 3) (eC (.int (1)))))
      (sExp (eMt extG (eV 2) (aCons (eV 4) aNil)))))))
    (sRet (eRv (eCmp leD (eV 3) (eC (.int (60)))))))))
def F_are_few__conditions_in (K : PySem.W.Frag) : List S → M Rv := runG 3 (B_are_few__conditions_in K)
def B_are_few__pays_in (K : PySem.W.Frag) : G :=
    (gSeq (sNew 2 (eLst (aCons (eV 0) aNil)))
    (gSeq (sSet 3 (eC (.int (0))))
    (gSeq (sWhile (fun _ _ => 100) (tAndM (tT (eV 2)) (op2 leD (eV 3) (eC (.int (60))))) (gSeq (sSet 4 (eFrz (eCallL 1 (He.ga K "pays_in") F_pays_in (aCons (eMt0 popG (eV 2)) aNil))))
      (gSeq (sIf (op1 isnD (eV 4)) (sRet (eRv (eC (.bool false)))) gNil)
      (gSeq (sSet 3 (eBin addD (eV 3) (eC (.int (1)))))
      (sExp (eMt extG (eV 2) (aCons (eV 4) aNil)))))))
    (sRet (eRv (eCmp leD (eV 3) (eC (.int (60)))))))))
def F_are_few__pays_in (K : PySem.W.Frag) : List S → M Rv := runG 3 (B_are_few__pays_in K)
def B_is_condition (K : PySem.W.Frag) : G :=
    (sRet (eCall (F_are_few__conditions_in K) (aCons (eV 0) (aCons (eFn (He.ga K "conditions_in")) aNil))))
def F_is_condition (K : PySem.W.Frag) : List S → M Rv := runG 0 (B_is_condition K)
def B_is_pay (K : PySem.W.Frag) : G :=
    (sRet (eCall (F_are_few__pays_in K) (aCons (eV 0) (aCons (eFn (He.ga K "pays_in")) aNil))))
def F_is_pay (K : PySem.W.Frag) : List S → M Rv := runG 0 (B_is_pay K)
def B_line_of_parts (f_line_of_parts : List S → M Rv) (f_line_of : List S → M Rv) : G :=
    (gSeq (sSet 2 (eBin ixD (eV 0) (eC (.int (0)))))
    (gSeq (sIf (op2 eqD (eV 2) (eC (.str "times"))) (gSeq (sSet 3 (eFrz (eCall f_line_of (aCons (eBin ixD (eV 0) (eC (.int (2)))) (aCons (eV 1) aNil)))))
      (sRet (eRv (eIf (op1 isnD (eV 3)) (eC .none) (eFrz (eCall F_multiplied (aCons (eV 3) (aCons (eBin ixD (eV 0) (eC (.int (1)))) aNil)))))))) gNil)
    (gSeq (sIf (op2 eqD (eV 2) (eC (.str "over"))) (gSeq (sSet 3 (eFrz (eCall f_line_of (aCons (eBin ixD (eV 0) (eC (.int (1)))) (aCons (eV 1) aNil)))))
      (gSeq (sIf (op1 isnD (eV 3)) (sRet (eRv (eC .none))) gNil)
      (sRet (eCall F_lesser (aCons (eFrz (eCall F_greater (aCons (eFrz (eCall F_added (aCons (eV 3) (aCons (eFrz (eCall F_constant (aCons (eBin ixD (eV 0) (eC (.int (3)))) aNil))) (aCons (eNeg (eC (.int (1)))) aNil))))) (aCons (eFrz (eCall F_constant (aCons (eC (.int (0))) aNil))) aNil)))) (aCons (eFrz (eCall F_constant (aCons (eBin ixD (eV 0) (eC (.int (2)))) aNil))) aNil)))))) gNil)
    (gSeq (sSet 3 (eFrz (eCall f_line_of (aCons (eIf (op2 eqD (eV 2) (eC (.str "if"))) (eBin ixD (eV 0) (eC (.int (3)))) (eBin ixD (eV 0) (eC (.int (1))))) (aCons (eV 1) aNil)))))
    (gSeq (sSet 4 (eFrz (eCall f_line_of (aCons (eIf (op2 eqD (eV 2) (eC (.str "if"))) (eBin ixD (eV 0) (eC (.int (4)))) (eBin ixD (eV 0) (eC (.int (2))))) (aCons (eV 1) aNil)))))
    (gSeq (sIf (tOrM (op1 isnD (eV 3)) (op1 isnD (eV 4))) (sRet (eRv (eC .none))) gNil)
    (gSeq (sIf (op2 eqD (eV 2) (eC (.str "if"))) (sRet (eCall F_chosen (aCons (eBin ixD (eV 0) (eC (.int (1)))) (aCons (eBin ixD (eV 0) (eC (.int (2)))) (aCons (eV 3) (aCons (eV 4) aNil)))))) gNil)
    (gSeq (sIf (op2 eqD (eV 2) (eC (.str "min"))) (sRet (eCall F_lesser (aCons (eV 3) (aCons (eV 4) aNil)))) gNil)
    (gSeq (sIf (op2 eqD (eV 2) (eC (.str "max"))) (sRet (eCall F_greater (aCons (eV 3) (aCons (eV 4) aNil)))) gNil)
    (sRet (eCall F_added (aCons (eV 3) (aCons (eV 4) (aCons (eIf (op2 eqD (eV 2) (eC (.str "plus"))) (eC (.int (1))) (eNeg (eC (.int (1))))) aNil))))))))))))))
def B_line_of (f_line_of_parts : List S → M Rv) (f_line_of : List S → M Rv) : G :=
    (gSeq (sIf (tT (eIsa "str" (eV 0))) (sSet 2 (eIf (op2 eqD (eV 0) (eC (.str "loss"))) (eFrz (eCall F_itself aNil)) (eFrz (eCall F_constant (aCons (eV 1) aNil))))) (sIf (tT (eIsa "int" (eV 0))) (sSet 2 (eFrz (eCall F_constant (aCons (eV 0) aNil)))) (sSet 2 (eFrz (eCall f_line_of_parts (aCons (eV 0) (aCons (eV 1) aNil)))))))
    (gSeq (sIf (tOrM (op1 isnD (eV 2)) (tOrM (op2 ltD (eFrz (eCall F_least_value (aCons (eV 2) aNil))) (eNeg (eC (.int (1000000000000000))))) (op2 gtD (eFrz (eCall F_greatest_value (aCons (eV 2) aNil))) (eC (.int (1000000000000000)))))) (sRet (eRv (eC .none))) gNil)
    (sRet (eRv (eV 2)))))
mutual
def F_line_of_parts : Nat → List S → M Rv
  | 0 => F0
  | n + 1 => runG 3 (B_line_of_parts (F_line_of_parts n) (F_line_of n))
def F_line_of : Nat → List S → M Rv
  | 0 => F0
  | n + 1 => runG 1 (B_line_of (F_line_of_parts n) (F_line_of n))
end
def B_is_layer : G :=
    (gSeq (sIf (tNotM (tT (eIsa "tuple" (eV 0)))) (sRet (eRv (eC (.bool false)))) gNil)
    (sRet (eRv (eOrM (eCmp eqD (eV 0) (eTup aNil)) (eAndM (eCmp eqD (eCd lenG (aCons (eV 0) aNil)) (eC (.int (2)))) (eAndM (eFrz (eCall F_is_money (aCons (eBin ixD (eV 0) (eC (.int (0)))) aNil))) (eFrz (eCall F_is_money (aCons (eBin ixD (eV 0) (eC (.int (1)))) aNil)))))))))
def F_is_layer : List S → M Rv := runG 0 B_is_layer
def B_is_back : G :=
    (gSeq (sIf (tNotM (tT (eIsa "tuple" (eV 0)))) (sRet (eRv (eC (.bool false)))) gNil)
    (sRet (eRv (eOrM (eCmp eqD (eV 0) (eTup aNil)) (eAndM (eCmp eqD (eCd lenG (aCons (eV 0) aNil)) (eC (.int (2)))) (eAndM (eFrz (eCall F_is_number (aCons (eBin ixD (eV 0) (eC (.int (0)))) (aCons (eC (.int (0))) (aCons (eC (.int (8))) aNil))))) (eFrz (eCall F_is_number (aCons (eBin ixD (eV 0) (eC (.int (1)))) (aCons (eC (.int (0))) (aCons (eC (.int (100000))) aNil)))))))))))
def F_is_back : List S → M Rv := runG 0 B_is_back
def B_are_words (K : PySem.W.Frag) : G :=
    (gSeq (sIf (tOrM (tNotM (tT (eFrz (eCall F_is_tuple (aCons (eV 0) (aCons (eC (.int (8))) (aCons (eC (.int (8))) aNil))))))) (tOrM (tNotM (tT (eIsa "str" (eBin ixD (eV 0) (eC (.int (0))))))) (op2 neD (eBin ixD (eV 0) (eC (.int (0)))) (eC (.str "words"))))) (sRet (eRv (eC (.bool false)))) gNil)
    (gSeq (sPar 1 2 (eBin ixD (eV 0) (eC (.int (1)))) (eBin ixD (eV 0) (eC (.int (2)))))
    (gSeq (sIf (tOrM (tNotM (tT (eFrz (eCall F_is_tuple (aCons (eV 1) (aCons (eC (.int (0))) (aCons (eC (.int (12))) aNil))))))) (tNotM (tT (eFrz (eCall F_is_tuple (aCons (eV 2) (aCons (eC (.int (1))) (aCons (eC (.int (12))) aNil)))))))) (sRet (eRv (eC (.bool false)))) gNil)
    (gSeq (sFor (gtN 3) (iAnyM (eV 2)) (sIf (tOrM (tNotM (tT (eFrz (eCall F_is_tuple (aCons (eV 3) (aCons (eC (.int (2))) (aCons (eC (.int (2))) aNil))))))) (tOrM (tNotM (tT (eFrz (eCall F_is_name (aCons (eBin ixD (eV 3) (eC (.int (0)))) aNil))))) (tNotM (tT (eFrz (eCall F_is_money (aCons (eBin ixD (eV 3) (eC (.int (1)))) aNil))))))) (sRet (eRv (eC (.bool false)))) gNil))
    (gSeq (sIf (tNotM (tT (eFrz (eCall F_are_unlike (aCons (eFrz (eLc (iAnyM (eV 2)) (gtN 3) tYesM (eBin ixD (eV 3) (eC (.int (0)))) [3])) aNil))))) (sRet (eRv (eC (.bool false)))) gNil)
    (gSeq (sFor (gtN 3) (iAnyM (eV 1)) (gSeq (sIf (tOrM (tNotM (tT (eFrz (eCall F_is_tuple (aCons (eV 3) (aCons (eC (.int (2))) (aCons (eC (.int (2))) aNil))))))) (tOrM (tNotM (tT (eFrz (eCall (F_is_condition K) (aCons (eBin ixD (eV 3) (eC (.int (0)))) aNil))))) (tNotM (tT (eFrz (eCall (F_is_pay K) (aCons (eBin ixD (eV 3) (eC (.int (1)))) aNil))))))) (sRet (eRv (eC (.bool false)))) gNil)
      (sFor (gtN 4) (iAnyM (eCd sortedSetG (aCons (eFrz (eLc (iAnyM (eV 2)) (gtN 6) tYesM (eBin ixD (eV 6) (eC (.int (1)))) [6])) aNil))) (gSeq (sSet 5 (eFrz (eCall (F_line_of 60) (aCons (eBin ixD (eV 3) (eC (.int (1)))) (aCons (eV 4) aNil)))))
        (sIf (tOrM (op1 isnD (eV 5)) (tNotM (tT (eFrz (eCall F_is_gentle (aCons (eV 5) aNil)))))) (sRet (eRv (eC (.bool false)))) gNil)))))
    (gSeq (sIf (tOrM (tNotM (tT (eFrz (eCall F_is_layer (aCons (eBin ixD (eV 0) (eC (.int (3)))) aNil))))) (tOrM (tNotM (tT (eFrz (eCall F_is_layer (aCons (eBin ixD (eV 0) (eC (.int (4)))) aNil))))) (tNotM (tT (eFrz (eCall F_is_back (aCons (eBin ixD (eV 0) (eC (.int (5)))) aNil))))))) (sRet (eRv (eC (.bool false)))) gNil)
    (sRet (eRv (eAndM (eFrz (eCall F_is_money (aCons (eBin ixD (eV 0) (eC (.int (6)))) aNil))) (eFrz (eCall F_is_money (aCons (eBin ixD (eV 0) (eC (.int (7)))) aNil)))))))))))))
def F_are_words (K : PySem.W.Frag) : List S → M Rv := runG 6 (B_are_words K)
def B_check_words (K : PySem.W.Frag) : G :=
    (sIf (tNotM (tT (eFrz (eCall (F_are_words K) (aCons (eV 0) aNil))))) (sErr "BadWords") gNil)
def F_check_words (K : PySem.W.Frag) : List S → M Rv := runG 0 (B_check_words K)
def B_paid_by (f_paid_by : List S → M Rv) : G :=
    (gSeq (sIf (tT (eIsa "str" (eV 0))) (sRet (eRv (eIf (op2 eqD (eV 0) (eC (.str "loss"))) (eV 2) (eV 1)))) gNil)
    (gSeq (sIf (tT (eIsa "int" (eV 0))) (sRet (eRv (eV 0))) gNil)
    (gSeq (sSet 3 (eBin ixD (eV 0) (eC (.int (0)))))
    (gSeq (sIf (op2 eqD (eV 3) (eC (.str "times"))) (sRet (eRv (eBin mulD (eBin ixD (eV 0) (eC (.int (1)))) (eFrz (eCall f_paid_by (aCons (eBin ixD (eV 0) (eC (.int (2)))) (aCons (eV 1) (aCons (eV 2) aNil)))))))) gNil)
    (gSeq (sIf (op2 eqD (eV 3) (eC (.str "over"))) (sRet (eRv (eCd minG (aCons (eCd maxG (aCons (eBin subD (eFrz (eCall f_paid_by (aCons (eBin ixD (eV 0) (eC (.int (1)))) (aCons (eV 1) (aCons (eV 2) aNil))))) (eBin ixD (eV 0) (eC (.int (3))))) (aCons (eC (.int (0))) aNil))) (aCons (eBin ixD (eV 0) (eC (.int (2)))) aNil))))) gNil)
    (gSeq (sIf (op2 eqD (eV 3) (eC (.str "if"))) (sRet (eCall f_paid_by (aCons (eIf (tChn leD leD (eBin ixD (eV 0) (eC (.int (1)))) (eV 2) (eBin ixD (eV 0) (eC (.int (2))))) (eBin ixD (eV 0) (eC (.int (3)))) (eBin ixD (eV 0) (eC (.int (4))))) (aCons (eV 1) (aCons (eV 2) aNil))))) gNil)
    (gSeq (sSet 4 (eFrz (eCall f_paid_by (aCons (eBin ixD (eV 0) (eC (.int (1)))) (aCons (eV 1) (aCons (eV 2) aNil))))))
    (gSeq (sSet 5 (eFrz (eCall f_paid_by (aCons (eBin ixD (eV 0) (eC (.int (2)))) (aCons (eV 1) (aCons (eV 2) aNil))))))
    (gSeq (sIf (op2 eqD (eV 3) (eC (.str "min"))) (sRet (eRv (eCd minG (aCons (eV 4) (aCons (eV 5) aNil))))) gNil)
    (gSeq (sIf (op2 eqD (eV 3) (eC (.str "max"))) (sRet (eRv (eCd maxG (aCons (eV 4) (aCons (eV 5) aNil))))) gNil)
    (sRet (eRv (eIf (op2 eqD (eV 3) (eC (.str "plus"))) (eBin addD (eV 4) (eV 5)) (eBin subD (eV 4) (eV 5)))))))))))))))
def F_paid_by : Nat → List S → M Rv
  | 0 => F0
  | n + 1 => runG 3 (B_paid_by (F_paid_by n))
def B_pay (K : PySem.W.Frag) : G :=
    (gSeq (sIf (tOrM (tNotM (tT (eFrz (eCall (F_is_pay K) (aCons (eV 0) aNil))))) (tOrM (tNotM (tT (eFrz (eCall F_is_money (aCons (eV 1) aNil))))) (tNotM (tT (eFrz (eCall F_is_money (aCons (eV 2) aNil))))))) (sErr "BadWords") gNil)
    (sRet (eCall (F_paid_by 30) (aCons (eV 0) (aCons (eV 1) (aCons (eV 2) aNil))))))
def F_pay (K : PySem.W.Frag) : List S → M Rv := runG 0 (B_pay K)
def B__law_mixed : G :=
    (gSeq (sSet 2 (eBin modD (eBin addD (eBin addD (eBin mulD (eV 0) (eC (.int (48271)))) (eBin mulD (eV 1) (eC (.int (69621))))) (eC (.int (12345)))) (eC (.int (2147483647)))))
    (sRet (eRv (eBin modD (eBin addD (eBin mulD (eV 2) (eBin addD (eBin fdivD (eV 2) (eC (.int (65536)))) (eC (.int (3))))) (eV 1)) (eC (.int (2147483647)))))))
def F__law_mixed : List S → M Rv := runG 1 B__law_mixed
def B__law_numbers : G :=
    (gSeq (sNew 1 (eLst aNil))
    (gSeq (sFor (gtN 2) (iAnyM (eV 0)) (sIf (op2 geD (eV 2) (eBin powD (eC (.int (10))) (eC (.int (18))))) (gSeq (sSet 3 (eV 2))
        (sFor (gtN 4) (iRng (eC (.int (60)))) (sIf (op2 gtD (eV 3) (eC (.int (0)))) (gSeq (sExp (eMt appG (eV 1) (aCons (eBin modD (eV 3) (eC (.int (1000000)))) aNil)))
            (sSet 3 (eBin fdivD (eV 3) (eC (.int (1000000)))))) gNil))) (gSeq (sExp (eMt appG (eV 1) (aCons (eBin modD (eV 2) (eC (.int (1000000)))) aNil)))
        (sFor (gtN 4) (iRng (eC (.int (5)))) (sExp (eMt appG (eV 1) (aCons (eBin modD (eFrz (eCall F__law_mixed (aCons (eFrz (eCall F__law_mixed (aCons (eBin modD (eV 2) (eC (.int (2147483647)))) (aCons (eV 4) aNil)))) (aCons (eBin addD (eV 4) (eC (.int (7)))) aNil)))) (eC (.int (1000000)))) aNil)))))))
    (sRet (eRv (eV 1)))))
def F__law_numbers : List S → M Rv := runG 4 B__law_numbers
def B__law_draw : G :=
    (gSeq (sSet 1 (eBin ixD (eV 0) (eC (.int (1)))))
    (gSeq (sSub (eV 0) (eC (.int (1))) (eBin addD (eV 1) (eC (.int (1)))))
    (gSeq (sIf (op2 ltD (eV 1) (eCd lenG (aCons (eBin ixD (eV 0) (eC (.int (0)))) aNil))) (sRet (eRv (eBin ixD (eBin ixD (eV 0) (eC (.int (0)))) (eV 1)))) gNil)
    (gSeq (sSet 2 (eBin addD (eC (.int (1))) (eV 1)))
    (gSeq (sIf (op2 gtD (eCd lenG (aCons (eBin ixD (eV 0) (eC (.int (0)))) aNil)) (eC (.int (0)))) (sSet 2 (eBin addD (eV 2) (eBin mulD (eC (.int (1009))) (eBin ixD (eBin ixD (eV 0) (eC (.int (0)))) (eC (.int (0))))))) gNil)
    (sRet (eRv (eBin modD (eFrz (eCall F__law_mixed (aCons (eFrz (eCall F__law_mixed (aCons (eV 2) (aCons (eV 1) aNil)))) (aCons (eC (.int (5))) aNil)))) (eC (.int (1000000)))))))))))
def F__law_draw : List S → M Rv := runG 2 B__law_draw
def B__law_all_equal (f__law_all_equal : List S → M Rv) (f__law_equal : List S → M Rv) : G :=
    (gSeq (sFor (gtN 2) (iRng (eCd lenG (aCons (eV 1) aNil))) (sIf (tNotM (tT (eFrz (eCall f__law_equal (aCons (eBin ixD (eV 0) (eV 2)) (aCons (eBin ixD (eV 1) (eV 2)) aNil)))))) (sRet (eRv (eC (.bool false)))) gNil))
    (sRet (eRv (eC (.bool true)))))
def B__law_equal (f__law_all_equal : List S → M Rv) (f__law_equal : List S → M Rv) : G :=
    (gSeq (sIf (tT (eIsa "list" (eV 1))) (gSeq (sIf (tOrM (tNotM (tT (eIsa "list" (eV 0)))) (op2 neD (eCd lenG (aCons (eV 0) aNil)) (eCd lenG (aCons (eV 1) aNil)))) (sRet (eRv (eC (.bool false)))) gNil)
      (sRet (eCall f__law_all_equal (aCons (eV 0) (aCons (eV 1) aNil))))) gNil)
    (gSeq (sIf (tT (eIsa "tuple" (eV 1))) (gSeq (sIf (tOrM (tNotM (tT (eIsa "tuple" (eV 0)))) (op2 neD (eCd lenG (aCons (eV 0) aNil)) (eCd lenG (aCons (eV 1) aNil)))) (sRet (eRv (eC (.bool false)))) gNil)
      (sRet (eCall f__law_all_equal (aCons (eV 0) (aCons (eV 1) aNil))))) gNil)
    (gSeq (sIf (tT (eIsa "bool" (eV 1))) (sRet (eRv (eAndM (eIsa "bool" (eV 0)) (eCmp eqD (eV 0) (eV 1))))) gNil)
    (gSeq (sIf (tT (eIsa "int" (eV 1))) (sRet (eRv (eAndM (eIsa "int" (eV 0)) (eAndM (eNotM (eIsa "bool" (eV 0))) (eCmp eqD (eV 0) (eV 1)))))) gNil)
    (gSeq (sIf (tT (eIsa "str" (eV 1))) (sRet (eRv (eAndM (eIsa "str" (eV 0)) (eCmp eqD (eV 0) (eV 1))))) gNil)
    (sRet (eRv (eIsN (eV 0)))))))))
mutual
def F__law_all_equal : Nat → List S → M Rv
  | 0 => F0
  | n + 1 => runG 1 (B__law_all_equal (F__law_all_equal n) (F__law_equal n))
def F__law_equal : Nat → List S → M Rv
  | 0 => F0
  | n + 1 => runG 0 (B__law_equal (F__law_all_equal n) (F__law_equal n))
end
def B__law_any_pay (f__law_any_pay : List S → M Rv) : G :=
    (gSeq (sSet 2 (eBin modD (eFrz (eCallC F__law_draw (aCons (eV 0) aNil))) (eC (.int (12)))))
    (gSeq (sSet 3 (eBin ixD (eFrz (eLst (aCons (eC (.int (0))) (aCons (eC (.int (1))) (aCons (eC (.int (2))) (aCons (eC (.int (5))) (aCons (eC (.int (10))) (aCons (eC (.int (50))) (aCons (eC (.int (1000))) (aCons (eBin powD (eC (.int (10))) (eC (.int (6)))) (aCons (eBin powD (eC (.int (10))) (eC (.int (12)))) aNil))))))))))) (eBin modD (eFrz (eCallC F__law_draw (aCons (eV 0) aNil))) (eC (.int (9))))))
    (gSeq (sIf (tOrM (op2 ltD (eV 2) (eC (.int (3)))) (op2 eqD (eV 1) (eC (.int (0))))) (sRet (eRv (eBin ixD (eFrz (eLst (aCons (eC (.str "loss")) (aCons (eC (.str "loss")) (aCons (eC (.str "sum")) (aCons (eV 3) (aCons (eV 3) aNil))))))) (eBin modD (eFrz (eCallC F__law_draw (aCons (eV 0) aNil))) (eC (.int (5))))))) gNil)
    (gSeq (sSet 4 (eFrz (eCallC f__law_any_pay (aCons (eV 0) (aCons (eBin subD (eV 1) (eC (.int (1)))) aNil)))))
    (gSeq (sIf (op2 eqD (eV 2) (eC (.int (3)))) (sRet (eRv (eTup (aCons (eC (.str "times")) (aCons (eBin ixD (eFrz (eLst (aCons (eC (.int (0))) (aCons (eC (.int (1))) (aCons (eC (.int (2))) (aCons (eC (.int (3))) (aCons (eC (.int (1000))) aNil))))))) (eBin modD (eFrz (eCallC F__law_draw (aCons (eV 0) aNil))) (eC (.int (5))))) (aCons (eV 4) aNil)))))) gNil)
    (gSeq (sIf (op2 eqD (eV 2) (eC (.int (4)))) (sRet (eRv (eTup (aCons (eC (.str "over")) (aCons (eV 4) (aCons (eV 3) (aCons (eBin ixD (eFrz (eLst (aCons (eC (.int (0))) (aCons (eC (.int (1))) (aCons (eC (.int (5))) (aCons (eC (.int (100))) aNil)))))) (eBin modD (eFrz (eCallC F__law_draw (aCons (eV 0) aNil))) (eC (.int (4))))) aNil))))))) gNil)
    (gSeq (sSet 5 (eFrz (eCallC f__law_any_pay (aCons (eV 0) (aCons (eBin subD (eV 1) (eC (.int (1)))) aNil)))))
    (gSeq (sIf (op2 eqD (eV 2) (eC (.int (5)))) (gSeq (sSet 6 (eBin ixD (eFrz (eLst (aCons (eC (.int (0))) (aCons (eC (.int (1))) (aCons (eC (.int (5))) (aCons (eC (.int (10))) (aCons (eC (.int (100))) aNil))))))) (eBin modD (eFrz (eCallC F__law_draw (aCons (eV 0) aNil))) (eC (.int (5))))))
      (sRet (eRv (eTup (aCons (eC (.str "if")) (aCons (eV 6) (aCons (eBin addD (eV 6) (eBin ixD (eFrz (eLst (aCons (eC (.int (0))) (aCons (eC (.int (1))) (aCons (eC (.int (5))) (aCons (eBin powD (eC (.int (10))) (eC (.int (6)))) aNil)))))) (eBin modD (eFrz (eCallC F__law_draw (aCons (eV 0) aNil))) (eC (.int (4)))))) (aCons (eV 4) (aCons (eV 5) aNil))))))))) gNil)
    (sRet (eRv (eTup (aCons (eBin ixD (eFrz (eLst (aCons (eC (.str "plus")) (aCons (eC (.str "minus")) (aCons (eC (.str "min")) (aCons (eC (.str "max")) aNil)))))) (eBin modD (eV 2) (eC (.int (4))))) (aCons (eV 4) (aCons (eV 5) aNil))))))))))))))
def F__law_any_pay : Nat → List S → M Rv
  | 0 => F0
  | n + 1 => runG 5 (B__law_any_pay (F__law_any_pay n))
def B__law_at : G :=
    (gSeq (sFor (gtT (gtsCons (gtN 2) (gtsCons (gtN 3) (gtsCons (gtN 4) gtsNil)))) (iAnyM (eCd revG (aCons (eV 0) aNil))) (sIf (op2 leD (eV 2) (eV 1)) (sRet (eRv (eTup (aCons (eBin addD (eV 3) (eBin mulD (eV 4) (eBin subD (eV 1) (eV 2)))) (aCons (eV 4) aNil))))) gNil))
    (sRet (eRv (eTup (aCons (eC (.int (0))) (aCons (eC (.int (0))) aNil))))))
def F__law_at : List S → M Rv := runG 3 B__law_at
def B__law_joined : G :=
    (gSeq (sSet 3 (eCd sortedSetG (aCons (eBin addD (eFrz (eLc (iAnyM (eV 1)) (gtN 14) tYesM (eBin ixD (eV 14) (eC (.int (0)))) [14])) (eFrz (eLc (iAnyM (eV 2)) (gtN 14) tYesM (eBin ixD (eV 14) (eC (.int (0)))) [14]))) aNil)))
    (gSeq (sNew 4 (eLst aNil))
    (gSeq (sFor (gtN 5) (iRng (eCd lenG (aCons (eV 3) aNil))) (gSeq (sSet 6 (eBin ixD (eV 3) (eV 5)))
      (gSeq (sSet 7 (eIf (op2 ltD (eBin addD (eV 5) (eC (.int (1)))) (eCd lenG (aCons (eV 3) aNil))) (eBin subD (eBin ixD (eV 3) (eBin addD (eV 5) (eC (.int (1))))) (eC (.int (1)))) (eBin powD (eC (.int (10))) (eC (.int (12))))))
      (gSeq (sTgt (gtT (gtsCons (gtN 8) (gtsCons (gtN 9) gtsNil))) (eFrz (eCall F__law_at (aCons (eV 1) (aCons (eV 6) aNil)))))
      (gSeq (sTgt (gtT (gtsCons (gtN 10) (gtsCons (gtN 11) gtsNil))) (eFrz (eCall F__law_at (aCons (eV 2) (aCons (eV 6) aNil)))))
      (sIf (op2 eqD (eV 0) (eC (.str "plus"))) (sExp (eMt appG (eV 4) (aCons (eTup (aCons (eV 6) (aCons (eBin addD (eV 8) (eV 10)) (aCons (eBin addD (eV 9) (eV 11)) aNil)))) aNil))) (sIf (op2 eqD (eV 0) (eC (.str "minus"))) (sExp (eMt appG (eV 4) (aCons (eTup (aCons (eV 6) (aCons (eBin subD (eV 8) (eV 10)) (aCons (eBin subD (eV 9) (eV 11)) aNil)))) aNil))) (gSeq (sSet 12 (eIf (op2 eqD (eV 0) (eC (.str "min"))) (eC (.int (1))) (eNeg (eC (.int (1))))))
          (gSeq (sIf (tOrM (op2 gtD (eBin mulD (eV 12) (eBin subD (eV 8) (eV 10))) (eC (.int (0)))) (tAndM (op2 eqD (eV 8) (eV 10)) (op2 gtD (eBin mulD (eV 12) (eBin subD (eV 9) (eV 11))) (eC (.int (0)))))) (sTgt (gtT (gtsCons (gtN 8) (gtsCons (gtN 9) (gtsCons (gtN 10) (gtsCons (gtN 11) gtsNil))))) (eTup (aCons (eV 10) (aCons (eV 11) (aCons (eV 8) (aCons (eV 9) aNil)))))) gNil)
          (gSeq (sExp (eMt appG (eV 4) (aCons (eTup (aCons (eV 6) (aCons (eV 8) (aCons (eV 9) aNil)))) aNil)))
          (sIf (op2 gtD (eBin mulD (eV 12) (eBin subD (eV 9) (eV 11))) (eC (.int (0)))) (gSeq (sSet 13 (eBin addD (eBin addD (eV 6) (eBin fdivD (eBin mulD (eV 12) (eBin subD (eV 10) (eV 8))) (eBin mulD (eV 12) (eBin subD (eV 9) (eV 11))))) (eC (.int (1)))))
            (sIf (op2 leD (eV 13) (eV 7)) (sExp (eMt appG (eV 4) (aCons (eTup (aCons (eV 13) (aCons (eBin addD (eV 10) (eBin mulD (eV 11) (eBin subD (eV 13) (eV 6)))) (aCons (eV 11) aNil)))) aNil))) gNil)) gNil)))))))))))
    (sRet (eRv (eV 4))))))
def F__law_joined : List S → M Rv := runG 12 B__law_joined
def B__law_chosen : G :=
    (gSeq (sSet 4 (eCd sortedSetG (aCons (eBin addD (eBin addD (eFrz (eLc (iAnyM (eV 2)) (gtN 5) tYesM (eBin ixD (eV 5) (eC (.int (0)))) [5])) (eFrz (eLc (iAnyM (eV 3)) (gtN 5) tYesM (eBin ixD (eV 5) (eC (.int (0)))) [5]))) (eFrz (eLst (aCons (eV 0) (aCons (eBin addD (eV 1) (eC (.int (1)))) aNil))))) aNil)))
    (sRet (eLc (iAnyM (eV 4)) (gtN 6) (op2 leD (eV 6) (eBin powD (eC (.int (10))) (eC (.int (12))))) (eBin addD (eTup (aCons (eV 6) aNil)) (eFrz (eCall F__law_at (aCons (eIf (tChn leD leD (eV 0) (eV 6) (eV 1)) (eV 2) (eV 3)) (aCons (eV 6) aNil))))) [6])))
def F__law_chosen : List S → M Rv := runG 3 B__law_chosen
def B__law_ends : G :=
    (gSeq (sNew 1 (eLst aNil))
    (gSeq (sFor (gtN 2) (iRng (eCd lenG (aCons (eV 0) aNil))) (gSeq (sTgt (gtT (gtsCons (gtN 3) (gtsCons (gtN 4) (gtsCons (gtN 5) gtsNil)))) (eBin ixD (eV 0) (eV 2)))
      (gSeq (sSet 6 (eIf (op2 ltD (eBin addD (eV 2) (eC (.int (1)))) (eCd lenG (aCons (eV 0) aNil))) (eBin subD (eBin ixD (eBin ixD (eV 0) (eBin addD (eV 2) (eC (.int (1))))) (eC (.int (0)))) (eC (.int (1)))) (eBin powD (eC (.int (10))) (eC (.int (12))))))
      (sExp (eMt appG (eV 1) (aCons (eTup (aCons (eV 3) (aCons (eV 4) (aCons (eBin addD (eV 4) (eBin mulD (eV 5) (eBin subD (eV 6) (eV 3)))) aNil)))) aNil))))))
    (sRet (eRv (eV 1)))))
def F__law_ends : List S → M Rv := runG 6 B__law_ends
def B__law_pieces (f__law_pieces : List S → M Rv) : G :=
    (gSeq (sIf (op2 eqD (eV 0) (eC (.str "loss"))) (sSet 2 (eFrz (eLst (aCons (eTup (aCons (eC (.int (0))) (aCons (eC (.int (0))) (aCons (eC (.int (1))) aNil)))) aNil)))) (sIf (op2 eqD (eV 0) (eC (.str "sum"))) (sSet 2 (eFrz (eLst (aCons (eTup (aCons (eC (.int (0))) (aCons (eV 1) (aCons (eC (.int (0))) aNil)))) aNil)))) (sIf (tT (eIsa "int" (eV 0))) (sSet 2 (eFrz (eLst (aCons (eTup (aCons (eC (.int (0))) (aCons (eV 0) (aCons (eC (.int (0))) aNil)))) aNil)))) (sIf (op2 eqD (eBin ixD (eV 0) (eC (.int (0)))) (eC (.str "times"))) (gSeq (sSet 3 (eFrz (eCall f__law_pieces (aCons (eBin ixD (eV 0) (eC (.int (2)))) (aCons (eV 1) aNil)))))
            (sSet 2 (eIf (op1 isnD (eV 3)) (eC .none) (eFrz (eLc (iAnyM (eV 3)) (gtT (gtsCons (gtN 6) (gtsCons (gtN 7) (gtsCons (gtN 8) gtsNil)))) tYesM (eTup (aCons (eV 6) (aCons (eBin mulD (eBin ixD (eV 0) (eC (.int (1)))) (eV 7)) (aCons (eBin mulD (eBin ixD (eV 0) (eC (.int (1)))) (eV 8)) aNil)))) [6, 7, 8]))))) (sIf (op2 eqD (eBin ixD (eV 0) (eC (.int (0)))) (eC (.str "over"))) (gSeq (sSet 3 (eFrz (eCall f__law_pieces (aCons (eBin ixD (eV 0) (eC (.int (1)))) (aCons (eV 1) aNil)))))
              (gSeq (sSet 2 (eC .none))
              (sIf (tNotM (op1 isnD (eV 3))) (gSeq (sSet 4 (eFrz (eCall F__law_joined (aCons (eC (.str "max")) (aCons (eFrz (eLc (iAnyM (eV 3)) (gtT (gtsCons (gtN 6) (gtsCons (gtN 7) (gtsCons (gtN 8) gtsNil)))) tYesM (eTup (aCons (eV 6) (aCons (eBin subD (eV 7) (eBin ixD (eV 0) (eC (.int (3))))) (aCons (eV 8) aNil)))) [6, 7, 8])) (aCons (eFrz (eLst (aCons (eTup (aCons (eC (.int (0))) (aCons (eC (.int (0))) (aCons (eC (.int (0))) aNil)))) aNil))) aNil))))))
                (sSet 2 (eFrz (eCall F__law_joined (aCons (eC (.str "min")) (aCons (eV 4) (aCons (eFrz (eLst (aCons (eTup (aCons (eC (.int (0))) (aCons (eBin ixD (eV 0) (eC (.int (2)))) (aCons (eC (.int (0))) aNil)))) aNil))) aNil))))))) gNil))) (sIf (op2 eqD (eBin ixD (eV 0) (eC (.int (0)))) (eC (.str "if"))) (gSeq (sSet 3 (eFrz (eCall f__law_pieces (aCons (eBin ixD (eV 0) (eC (.int (3)))) (aCons (eV 1) aNil)))))
                (gSeq (sSet 5 (eFrz (eCall f__law_pieces (aCons (eBin ixD (eV 0) (eC (.int (4)))) (aCons (eV 1) aNil)))))
                (sSet 2 (eIf (tOrM (op1 isnD (eV 3)) (op1 isnD (eV 5))) (eC .none) (eFrz (eCall F__law_chosen (aCons (eBin ixD (eV 0) (eC (.int (1)))) (aCons (eBin ixD (eV 0) (eC (.int (2)))) (aCons (eV 3) (aCons (eV 5) aNil)))))))))) (gSeq (sSet 3 (eFrz (eCall f__law_pieces (aCons (eBin ixD (eV 0) (eC (.int (1)))) (aCons (eV 1) aNil)))))
                (gSeq (sSet 5 (eFrz (eCall f__law_pieces (aCons (eBin ixD (eV 0) (eC (.int (2)))) (aCons (eV 1) aNil)))))
                (sSet 2 (eIf (tOrM (op1 isnD (eV 3)) (op1 isnD (eV 5))) (eC .none) (eFrz (eCall F__law_joined (aCons (eBin ixD (eV 0) (eC (.int (0)))) (aCons (eV 3) (aCons (eV 5) aNil)))))))))))))))
    (gSeq (sIf (tOrM (op1 isnD (eV 2)) (op2 gtD (eCd lenG (aCons (eFrz (eLc (iAnyM (eFrz (eCall F__law_ends (aCons (eV 2) aNil)))) (gtN 9) (tOrM (op2 gtD (eCd absG (aCons (eBin ixD (eV 9) (eC (.int (1)))) aNil)) (eBin powD (eC (.int (10))) (eC (.int (15))))) (op2 gtD (eCd absG (aCons (eBin ixD (eV 9) (eC (.int (2)))) aNil)) (eBin powD (eC (.int (10))) (eC (.int (15)))))) (eV 9) [9])) aNil)) (eC (.int (0))))) (sRet (eRv (eC .none))) gNil)
    (sRet (eRv (eV 2)))))
def F__law_pieces : Nat → List S → M Rv
  | 0 => F0
  | n + 1 => runG 8 (B__law_pieces (F__law_pieces n))
def B__law_rises : G :=
    (gSeq (sSet 1 (eFrz (eCall F__law_ends (aCons (eV 0) aNil))))
    (gSeq (sIf (op2 neD (eBin ixD (eBin ixD (eV 1) (eC (.int (0)))) (eC (.int (1)))) (eC (.int (0)))) (sRet (eRv (eC (.bool false)))) gNil)
    (gSeq (sFor (gtN 2) (iRng (eCd lenG (aCons (eV 0) aNil))) (gSeq (sSet 3 (eIf (op2 ltD (eBin addD (eV 2) (eC (.int (1)))) (eCd lenG (aCons (eV 0) aNil))) (eBin subD (eBin ixD (eBin ixD (eV 0) (eBin addD (eV 2) (eC (.int (1))))) (eC (.int (0)))) (eC (.int (1)))) (eBin powD (eC (.int (10))) (eC (.int (12))))))
      (gSeq (sIf (tAndM (op2 gtD (eV 3) (eBin ixD (eBin ixD (eV 0) (eV 2)) (eC (.int (0))))) (op2 ninD (eBin ixD (eBin ixD (eV 0) (eV 2)) (eC (.int (2)))) (eFrz (eLst (aCons (eC (.int (0))) (aCons (eC (.int (1))) aNil)))))) (sRet (eRv (eC (.bool false)))) gNil)
      (sIf (tAndM (op2 gtD (eV 2) (eC (.int (0)))) (op2 ninD (eBin subD (eBin ixD (eBin ixD (eV 1) (eV 2)) (eC (.int (1)))) (eBin ixD (eBin ixD (eV 1) (eBin subD (eV 2) (eC (.int (1))))) (eC (.int (2))))) (eFrz (eLst (aCons (eC (.int (0))) (aCons (eC (.int (1))) aNil)))))) (sRet (eRv (eC (.bool false)))) gNil))))
    (sRet (eRv (eC (.bool true)))))))
def F__law_rises : List S → M Rv := runG 3 B__law_rises
def B__law_told (K : PySem.W.Frag) : G :=
    (gSeq (sTry 1 exKnown exSub_WhatbefellError (fun c a => (sRet (eRv (eIf (tT (eIsE 1 a (exSub_BadWords c))) (eC (.bool false)) (eC .none))))) (sExp (eFrz (eCall (F_check_words K) (aCons (eV 0) aNil)))))
    (sRet (eRv (eC (.bool true)))))
def F__law_told (K : PySem.W.Frag) : List S → M Rv := runG 1 (B__law_told K)
def B__law_soft (f__law_soft : List S → M Rv) : G :=
    (gSeq (sSet 2 (eBin ixD (eFrz (eLst (aCons (eC (.int (1))) (aCons (eC (.int (2))) (aCons (eC (.int (5))) (aCons (eC (.int (10))) (aCons (eC (.int (100))) (aCons (eBin powD (eC (.int (10))) (eC (.int (6)))) aNil)))))))) (eBin modD (eFrz (eCallC F__law_draw (aCons (eV 0) aNil))) (eC (.int (6))))))
    (gSeq (sSet 3 (eBin ixD (eFrz (eLst (aCons (eC (.int (0))) (aCons (eC (.int (1))) (aCons (eC (.int (4))) (aCons (eC (.int (10))) (aCons (eC (.int (99))) aNil))))))) (eBin modD (eFrz (eCallC F__law_draw (aCons (eV 0) aNil))) (eC (.int (5))))))
    (gSeq (sIf (op2 eqD (eV 1) (eC (.int (0)))) (sRet (eRv (eBin ixD (eFrz (eLst (aCons (eC (.str "loss")) (aCons (eTup (aCons (eC (.str "over")) (aCons (eC (.str "loss")) (aCons (eV 2) (aCons (eV 3) aNil))))) (aCons (eTup (aCons (eC (.str "min")) (aCons (eC (.str "loss")) (aCons (eC (.str "sum")) aNil)))) (aCons (eTup (aCons (eC (.str "minus")) (aCons (eC (.str "loss")) (aCons (eTup (aCons (eC (.str "over")) (aCons (eC (.str "loss")) (aCons (eV 2) (aCons (eV 3) aNil))))) aNil)))) aNil)))))) (eBin modD (eFrz (eCallC F__law_draw (aCons (eV 0) aNil))) (eC (.int (4))))))) gNil)
    (gSeq (sSet 4 (eFrz (eCallC f__law_soft (aCons (eV 0) (aCons (eBin subD (eV 1) (eC (.int (1)))) aNil)))))
    (gSeq (sSet 5 (eFrz (eCallC f__law_soft (aCons (eV 0) (aCons (eBin subD (eV 1) (eC (.int (1)))) aNil)))))
    (gSeq (sSet 6 (eBin modD (eFrz (eCallC F__law_draw (aCons (eV 0) aNil))) (eC (.int (8)))))
    (gSeq (sIf (op2 ltD (eV 6) (eC (.int (2)))) (sRet (eRv (eTup (aCons (eBin ixD (eFrz (eLst (aCons (eC (.str "min")) (aCons (eC (.str "max")) aNil)))) (eV 6)) (aCons (eV 4) (aCons (eV 5) aNil)))))) gNil)
    (gSeq (sIf (op2 eqD (eV 6) (eC (.int (2)))) (sRet (eRv (eTup (aCons (eC (.str "over")) (aCons (eV 4) (aCons (eV 2) (aCons (eV 3) aNil))))))) gNil)
    (gSeq (sIf (op2 eqD (eV 6) (eC (.int (3)))) (sRet (eRv (eTup (aCons (eC (.str "plus")) (aCons (eTup (aCons (eC (.str "over")) (aCons (eV 4) (aCons (eV 2) (aCons (eC (.int (0))) aNil))))) (aCons (eTup (aCons (eC (.str "over")) (aCons (eV 5) (aCons (eV 2) (aCons (eBin addD (eV 2) (eV 3)) aNil))))) aNil)))))) gNil)
    (gSeq (sIf (op2 eqD (eV 6) (eC (.int (4)))) (sRet (eRv (eTup (aCons (eC (.str "if")) (aCons (eC (.int (0))) (aCons (eV 2) (aCons (eV 4) (aCons (eTup (aCons (eC (.str "plus")) (aCons (eTup (aCons (eC (.str "over")) (aCons (eV 4) (aCons (eV 2) (aCons (eC (.int (0))) aNil))))) (aCons (eTup (aCons (eC (.str "over")) (aCons (eC (.str "loss")) (aCons (eBin powD (eC (.int (10))) (eC (.int (12)))) (aCons (eV 2) aNil))))) aNil)))) aNil)))))))) gNil)
    (gSeq (sIf (op2 eqD (eV 6) (eC (.int (5)))) (sRet (eRv (eTup (aCons (eC (.str "minus")) (aCons (eV 4) (aCons (eTup (aCons (eC (.str "over")) (aCons (eV 4) (aCons (eV 2) (aCons (eV 3) aNil))))) aNil)))))) gNil)
    (gSeq (sIf (op2 eqD (eV 6) (eC (.int (6)))) (sRet (eRv (eTup (aCons (eC (.str "if")) (aCons (eC (.int (0))) (aCons (eV 3) (aCons (eC (.int (0))) (aCons (eTup (aCons (eC (.str "max")) (aCons (eTup (aCons (eC (.str "minus")) (aCons (eC (.str "loss")) (aCons (eV 3) aNil)))) (aCons (eC (.int (0))) aNil)))) aNil)))))))) gNil)
    (sRet (eRv (eTup (aCons (eC (.str "max")) (aCons (eTup (aCons (eC (.str "minus")) (aCons (eTup (aCons (eC (.str "plus")) (aCons (eV 4) (aCons (eV 5) aNil)))) (aCons (eC (.str "loss")) aNil)))) (aCons (eC (.int (0))) aNil))))))))))))))))))
def F__law_soft : Nat → List S → M Rv
  | 0 => F0
  | n + 1 => runG 5 (B__law_soft (F__law_soft n))
def B_law (K : PySem.W.Frag) : G :=
    (gSeq (sNew 1 (eLst (aCons (eFrz (eCall F__law_numbers (aCons (eV 0) aNil))) (aCons (eC (.int (0))) aNil))))
    (gSeq (sFor (gtN 2) (iRng (eC (.int (6)))) (gSeq (sSet 3 (eFrz (eCallC (F__law_soft 12) (aCons (eV 1) (aCons (eBin modD (eV 2) (eC (.int (3)))) aNil)))))
      (gSeq (sIf (op2 eqD (eBin modD (eV 2) (eC (.int (3)))) (eC (.int (2)))) (sSet 3 (eFrz (eCallC (F__law_any_pay 12) (aCons (eV 1) (aCons (eBin addD (eC (.int (1))) (eBin modD (eFrz (eCallC F__law_draw (aCons (eV 1) aNil))) (eC (.int (4))))) aNil))))) gNil)
      (gSeq (sSet 4 (eFrz (eLc (iRng (eBin addD (eC (.int (1))) (eBin modD (eFrz (eCallC F__law_draw (aCons (eV 1) aNil))) (eC (.int (2)))))) (gtN 10) tYesM (eBin ixD (eFrz (eLst (aCons (eC (.int (0))) (aCons (eC (.int (3))) (aCons (eC (.int (100))) (aCons (eBin powD (eC (.int (10))) (eC (.int (12)))) aNil)))))) (eBin modD (eFrz (eCallC F__law_draw (aCons (eV 1) aNil))) (eC (.int (4))))) [10])))
      (gSeq (sSet 5 (eFrz (eLc (iAnyM (eV 4)) (gtN 11) tYesM (eFrz (eCall (F__law_pieces 30) (aCons (eV 3) (aCons (eV 11) aNil)))) [11])))
      (gSeq (sSet 6 (eAndM (eCmp ninD (eC .none) (eV 5)) (eCmp ninD (eC (.bool false)) (eFrz (eLc (iAnyM (eV 5)) (gtN 12) tYesM (eFrz (eCall F__law_rises (aCons (eV 12) aNil))) [12])))))
      (gSeq (sSet 7 (eSl (eTup (aCons (eTup (aCons (eTup (aCons (eC (.str "always")) aNil)) (aCons (eC (.str "loss")) aNil))) (aCons (eTup (aCons (eTup (aCons (eC (.str "peril")) (aCons (eC (.str "fire")) aNil))) (aCons (eV 3) aNil))) aNil))) (oSome (eBin modD (eFrz (eCallC F__law_draw (aCons (eV 1) aNil))) (eC (.int (2))))) oNone))
      (gSeq (sSet 8 (eTup (aCons (eC (.str "words")) (aCons (eV 7) (aCons (eCd tupleG (aCons (eFrz (eLc (iRng (eCd lenG (aCons (eV 4) aNil))) (gtN 10) tYesM (eTup (aCons (eBin ixD (eFrz (eLst (aCons (eC (.str "a")) (aCons (eC (.str "b")) aNil)))) (eV 10)) (aCons (eBin ixD (eV 4) (eV 10)) aNil))) [10])) aNil)) (aCons (eTup aNil) (aCons (eTup aNil) (aCons (eTup aNil) (aCons (eC (.int (0))) (aCons (eC (.int (0))) aNil))))))))))
      (gSeq (sIf (tNotM (tT (eFrz (eCall (F__law_equal 12) (aCons (eFrz (eCall (F__law_told K) (aCons (eV 8) aNil))) (aCons (eV 6) aNil)))))) (sRet (eRv (eC (.bool false)))) gNil)
      (sFor (gtN 9) (iAnyM (eFrz (eLst (aCons (eC (.int (0))) (aCons (eC (.int (1))) (aCons (eBin modD (eFrz (eCallC F__law_draw (aCons (eV 1) aNil))) (eC (.int (120)))) (aCons (eFrz (eCallC F__law_draw (aCons (eV 1) aNil))) (aCons (eBin powD (eC (.int (10))) (eC (.int (12)))) aNil)))))))) (sIf (tAndM (tNotM (op1 isnD (eBin ixD (eV 5) (eC (.int (0)))))) (tNotM (tT (eFrz (eCall (F__law_equal 12) (aCons (eFrz (eCall (F_pay K) (aCons (eV 3) (aCons (eBin ixD (eV 4) (eC (.int (0)))) (aCons (eV 9) aNil))))) (aCons (eBin ixD (eFrz (eCall F__law_at (aCons (eBin ixD (eV 5) (eC (.int (0)))) (aCons (eV 9) aNil)))) (eC (.int (0)))) aNil))))))) (sRet (eRv (eC (.bool false)))) gNil)))))))))))
    (sRet (eRv (eC (.bool true))))))
def F_law (K : PySem.W.Frag) : List S → M Rv := runG 12 (B_law K)
end
end Law

set_option Elab.async false
set_option linter.all false
set_option pp.maxSteps 600
set_option maxRecDepth 100000
set_option maxHeartbeats 1000000
namespace Law
open PySem L2 Dn
/-! the law's own helpers -/
theorem mulD_lt {x y : Int} (hx : x.natAbs < 2 ^ 250) (hy : y.natAbs < 2 ^ 250) : mulD (.int x) (.int y) = some (.int (x * y)) := by
  have h1 := log2_lt (x := x) (k := 250) (by omega) hx
  have h2 := log2_lt (x := y) (k := 250) (by omega) hy
  rw [mulD_int, if_pos (by omega)]
theorem fdivD_lt {x y : Int} (hy : 0 < y) (hy2 : y.natAbs < 2 ^ 250) : fdivD (.int x) (.int y) = some (.int (x / y)) := by
  have h2 := log2_lt (x := y) (k := 250) (by omega) hy2
  rw [fdivD_int, if_pos ⟨hy, by omega⟩]
def mx (n k : Int) : Int := ((n * 48271 + k * 69621 + 12345) % 2147483647 * ((n * 48271 + k * 69621 + 12345) % 2147483647 / 65536 + 3) + k) % 2147483647
theorem mx_lo (n k : Int) : 0 ≤ mx n k := Int.emod_nonneg _ (by decide)
theorem mx_hi (n k : Int) : mx n k < 2147483647 := Int.emod_lt_of_pos _ (by decide)
theorem mixed_ {n k : Int} (hn : n.natAbs < 2 ^ 64) (hk : k.natAbs < 2 ^ 64) : F__law_mixed [.d (.int n), .d (.int k)] [] = .ok (.d (.int (mx n k))) [] := by
  have h1 : mulD (.int n) (.int 48271) = some (.int (n * 48271)) := mulD_lt (Nat.lt_trans hn (by decide)) (by decide)
  have h2 : mulD (.int k) (.int 69621) = some (.int (k * 69621)) := mulD_lt (Nat.lt_trans hk (by decide)) (by decide)
  have h3 : ∀ x : Int, fdivD (.int x) (.int 65536) = some (.int (x / 65536)) := fun x => fdivD_lt (by decide) (by decide)
  have h4 : ∀ x y : Int, x.natAbs < 2 ^ 32 → y.natAbs < 2 ^ 32 → mulD (.int x) (.int y) = some (.int (x * y)) := fun x y hx hy => mulD_lt (Nat.lt_trans hx (by decide)) (Nat.lt_trans hy (by decide))
  have h5 : mulD (.int ((n * 48271 + k * 69621 + 12345) % 2147483647)) (.int ((n * 48271 + k * 69621 + 12345) % 2147483647 / 65536 + 3)) = some (.int ((n * 48271 + k * 69621 + 12345) % 2147483647 * ((n * 48271 + k * 69621 + 12345) % 2147483647 / 65536 + 3))) := by
    generalize n * 48271 + k * 69621 + 12345 = z
    have a1 : 0 ≤ z % 2147483647 := Int.emod_nonneg _ (by decide)
    have a2 : z % 2147483647 < 2147483647 := Int.emod_lt_of_pos _ (by decide)
    exact h4 _ _ (by omega) (by omega)
  simp only [F__law_mixed, B__law_mixed, mx]
  simp [h1, h2, h3, h5, -mulD_int, -fdivD_int]
/-- numbers of the law -/
def InR (l : List Int) : Prop := ∀ x ∈ l, 0 ≤ x ∧ x < 1000000
theorem inR_app {l : List Int} {x : Int} (h : InR l) (h1 : 0 ≤ x) (h2 : x < 1000000) : InR (l ++ [x]) := by
  intro y hy
  rcases List.mem_append.1 hy with hy | hy
  · exact h y hy
  · rw [List.mem_singleton.1 hy]; exact ⟨h1, h2⟩
theorem rngD_map (n : Nat) : ∀ (i : Int), rngD i n = ((List.range n).map fun (k : Nat) => i + (k : Int)).map .int := by
  intro i
  simp [rngD]
theorem num_in1 (x a b : S) : ∀ (js : List Int) (rest : Int) (acc : List Int) (c : S), InR acc → acc.length + js.length ≤ 10000 → ∃ acc' rest' c', gFor (gtN 4) (sIf (op2 gtD (eV 3) (eC (.int (0)))) (gSeq (sExp (eMt appG (eV 1) (aCons (eBin modD (eV 3) (eC (.int (1000000)))) aNil)))
            (sSet 3 (eBin fdivD (eV 3) (eC (.int (1000000)))))) gNil) (js.map .int) [x, .cel 0, a, .d (.int rest), c] [.lst (acc.map .int)] = .nx [x, .cel 0, a, .d (.int rest'), c'] [.lst (acc'.map .int)] ∧ InR acc' ∧ acc'.length ≤ acc.length + js.length
  | [], rest, acc, c, h1, h2 => ⟨acc, rest, c, by simp, h1, by simp⟩
  | j :: js, rest, acc, c, h1, h2 => by
    simp at h2
    have h3 : ∀ x : Int, fdivD (.int x) (.int 1000000) = some (.int (x / 1000000)) := fun x => fdivD_lt (by decide) (by decide)
    rw [List.map_cons, gFor_cons]
    by_cases hc : 0 < rest
    · obtain ⟨acc', rest', c', e, e1, e2⟩ := num_in1 x a b js (rest / 1000000) (acc ++ [rest % 1000000]) (.d (.int j)) (inR_app h1 (by omega) (by omega)) (by simp; omega)
      refine ⟨acc', rest', c', ?_, e1, by simp at e2 ⊢; omega⟩
      have l1 : acc.length < sizeLine := size_lt (by omega)
      have l2 : acc.length ≤ sizeLine := size_ok (by omega)
      simp at e
      simp [hc, h3, l1, l2, e, -fdivD_int]
    · obtain ⟨acc', rest', c', e, e1, e2⟩ := num_in1 x a b js rest acc (.d (.int j)) h1 (by omega)
      refine ⟨acc', rest', c', ?_, e1, by simp; omega⟩
      simp [hc, e]
theorem num_in2 (x b : S) (v : Int) : ∀ (js : List Int) (acc : List Int) (c : S), (∀ j ∈ js, 0 ≤ j ∧ j ≤ 10) → InR acc → acc.length + js.length ≤ 10000 → ∃ acc' c', gFor (gtN 4) (sExp (eMt appG (eV 1) (aCons (eBin modD (eFrz (eCall F__law_mixed (aCons (eFrz (eCall F__law_mixed (aCons (eBin modD (eV 2) (eC (.int (2147483647)))) (aCons (eV 4) aNil)))) (aCons (eBin addD (eV 4) (eC (.int (7)))) aNil)))) (eC (.int (1000000)))) aNil))) (js.map .int) [x, .cel 0, .d (.int v), b, c] [.lst (acc.map .int)] = .nx [x, .cel 0, .d (.int v), b, c'] [.lst (acc'.map .int)] ∧ InR acc' ∧ acc'.length ≤ acc.length + js.length
  | [], acc, c, h0, h1, h2 => ⟨acc, c, by simp, h1, by simp⟩
  | j :: js, acc, c, h0, h1, h2 => by
    simp at h2
    rw [List.map_cons, gFor_cons]
    have hj := h0 j (by simp)
    have a1 : 0 ≤ v % 2147483647 := Int.emod_nonneg _ (by decide)
    have a2 : v % 2147483647 < 2147483647 := Int.emod_lt_of_pos _ (by decide)
    have m1 := mixed_ (n := v % 2147483647) (k := j) (by omega) (by omega)
    have b1 := mx_lo (v % 2147483647) j
    have b2 := mx_hi (v % 2147483647) j
    have m2 := mixed_ (n := mx (v % 2147483647) j) (k := j + 7) (by omega) (by omega)
    obtain ⟨acc', c', e, e1, e2⟩ := num_in2 x b v js (acc ++ [mx (mx (v % 2147483647) j) (j + 7) % 1000000]) (.d (.int j)) (fun k hk => h0 k (by simp [hk])) (inR_app h1 (by omega) (by omega)) (by simp; omega)
    refine ⟨acc', c', ?_, e1, by simp at e2 ⊢; omega⟩
    have l1 : acc.length < sizeLine := size_lt (by omega)
    have l2 : acc.length ≤ sizeLine := size_ok (by omega)
    simp at e
    simp [m1, m2, l1, l2, e]
theorem num_out (x : S) : ∀ (ns : List Int) (acc : List Int) (a b c : S), InR acc → acc.length + 60 * ns.length ≤ 10000 → ∃ acc' a' b' c', gFor (gtN 2) (sIf (op2 geD (eV 2) (eBin powD (eC (.int (10))) (eC (.int (18))))) (gSeq (sSet 3 (eV 2))
        (sFor (gtN 4) (iRng (eC (.int (60)))) (sIf (op2 gtD (eV 3) (eC (.int (0)))) (gSeq (sExp (eMt appG (eV 1) (aCons (eBin modD (eV 3) (eC (.int (1000000)))) aNil)))
            (sSet 3 (eBin fdivD (eV 3) (eC (.int (1000000)))))) gNil))) (gSeq (sExp (eMt appG (eV 1) (aCons (eBin modD (eV 2) (eC (.int (1000000)))) aNil)))
        (sFor (gtN 4) (iRng (eC (.int (5)))) (sExp (eMt appG (eV 1) (aCons (eBin modD (eFrz (eCall F__law_mixed (aCons (eFrz (eCall F__law_mixed (aCons (eBin modD (eV 2) (eC (.int (2147483647)))) (aCons (eV 4) aNil)))) (aCons (eBin addD (eV 4) (eC (.int (7)))) aNil)))) (eC (.int (1000000)))) aNil)))))) (ns.map .int) [x, .cel 0, a, b, c] [.lst (acc.map .int)] = .nx [x, .cel 0, a', b', c'] [.lst (acc'.map .int)] ∧ InR acc' ∧ acc'.length ≤ acc.length + 60 * ns.length
  | [], acc, a, b, c, h1, h2 => ⟨acc, a, b, c, by simp, h1, by simp⟩
  | v :: ns, acc, a, b, c, h1, h2 => by
    simp at h2
    rw [List.map_cons, gFor_cons]
    by_cases hc : (1000000000000000000 : Int) ≤ v
    · obtain ⟨acc1, rest1, c1, e, e1, e2⟩ := num_in1 x (.d (.int v)) b ((List.range 60).map fun (k : Nat) => 0 + (k : Int)) v acc c h1 (by simp; omega)
      rw [← rngD_map] at e
      obtain ⟨acc', a', b', c', f, f1, f2⟩ := num_out x ns acc1 (.d (.int v)) (.d (.int rest1)) c1 e1 (by simp at e2; omega)
      refine ⟨acc', a', b', c', ?_, f1, by simp at e2 ⊢; omega⟩
      simp [hc, e, f]
    · have l1 : acc.length < sizeLine := size_lt (by omega)
      have l2 : acc.length ≤ sizeLine := size_ok (by omega)
      obtain ⟨acc1, c1, e, e1, e2⟩ := num_in2 x b v ((List.range 5).map fun (k : Nat) => 0 + (k : Int)) (acc ++ [v % 1000000]) c (by intro j hj; simp at hj; omega) (inR_app h1 (by omega) (by omega)) (by simp; omega)
      rw [← rngD_map] at e
      obtain ⟨acc', a', b', c', f, f1, f2⟩ := num_out x ns acc1 (.d (.int v)) b c1 e1 (by simp at e2; omega)
      refine ⟨acc', a', b', c', ?_, f1, by simp at e2 ⊢; omega⟩
      simp at e
      simp [hc, l1, l2, e, f]
theorem numbers_ (ns : List Int) (h : ns.length ≤ 100) : ∃ nums, F__law_numbers [.d (.list (ns.map .int))] [] = .ok (.own (.lst (nums.map .int))) [] ∧ InR nums ∧ nums.length ≤ 6000 := by
  obtain ⟨acc', a', b', c', f, f1, f2⟩ := num_out (.d (.list (ns.map .int))) ns [] .no .no .no (by intro x hx; cases hx) (by simp; omega)
  refine ⟨acc', ?_, f1, by simp at f2; omega⟩
  simp at f
  simp [F__law_numbers, B__law_numbers, f, fin_cel]
theorem gdI {l : List Int} {k : Nat} {d : Int} (h : k < l.length) : l.getD k d = l[k] := by
  simp [List.getD_eq_getElem?_getD, h]
/-- the draws, with further cells behind -/
def DSc (nums : List Int) (k : Nat) (c : Store) : Store := .lst [.list (nums.map .int), .int k] :: c
abbrev DS (nums : List Int) (k : Nat) : Store := DSc nums k []
def dr (nums : List Int) (k : Nat) : Int := if k < nums.length then nums.getD k 0 else mx (mx (if 0 < nums.length then 1 + (k : Int) + 1009 * nums.getD 0 0 else 1 + (k : Int)) k) 5 % 1000000
theorem dr_lo {nums : List Int} {k : Nat} (h : InR nums) : 0 ≤ dr nums k := by
  unfold dr
  split
  next hk => rw [gdI hk]; exact (h _ (List.getElem_mem hk)).1
  next => exact Int.emod_nonneg _ (by decide)
theorem dr_hi {nums : List Int} {k : Nat} (h : InR nums) : dr nums k < 1000000 := by
  unfold dr
  split
  next hk => rw [gdI hk]; exact (h _ (List.getElem_mem hk)).2
  next => exact Int.emod_lt_of_pos _ (by decide)
theorem draw_ {nums : List Int} {k : Nat} (h : InR nums) (hk : k < 1000000000000) : F__law_draw [.cel 0] (DS nums k) = .ok (.d (.int (dr nums k))) (DS nums (k + 1)) := by
  have i1 : ixN 2 1 = some 1 := rfl
  by_cases c : k < nums.length
  · have c1 : (k : Int) < nums.length := by omega
    have e1 : atI (nums.map PyData.int) (k : Int) = some (.int (dr nums k)) := by
      refine atI_of rfl ?_
      unfold dr
      rw [if_pos c, gdI c]
      simp [c]
    simp [F__law_draw, B__law_draw, DSc, i1, c1, e1]
  · have c1 : ¬ (k : Int) < nums.length := by omega
    by_cases c2 : 0 < nums.length
    · have c3 : 0 < (nums.length : Int) := by omega
      have c4 : nums.getD 0 0 = nums[0] := by rw [gdI c2]
      have c5 := h nums[0] (List.getElem_mem c2)
      have e1 : atI (nums.map PyData.int) (0 : Int) = some (.int (nums.getD 0 0)) := by
        refine atI_of (n := 0) rfl ?_
        rw [c4]
        simp [c2]
      have e2 : mulD (.int 1009) (.int (nums.getD 0 0)) = some (.int (1009 * nums.getD 0 0)) := mulD_lt (by decide) (Nat.lt_trans (m := 1000000) (by rw [c4]; omega) (by decide))
      have m1 := mixed_ (n := 1 + (k : Int) + 1009 * nums.getD 0 0) (k := k) (by rw [c4]; omega) (by omega)
      have b1 := mx_lo (1 + (k : Int) + 1009 * nums.getD 0 0) k
      have b2 := mx_hi (1 + (k : Int) + 1009 * nums.getD 0 0) k
      have m2 := mixed_ (n := mx (1 + (k : Int) + 1009 * nums.getD 0 0) k) (k := 5) (by omega) (by decide)
      have d1 : dr nums k = mx (mx (1 + (k : Int) + 1009 * nums.getD 0 0) k) 5 % 1000000 := by
        unfold dr; rw [if_neg c, if_pos c2]
      generalize nums.getD 0 0 = z at e1 e2 m1 m2 d1
      simp [F__law_draw, B__law_draw, DSc, i1, c1, c2, e1, e2, m1, m2, d1, -mulD_int]
    · have c3 : nums = [] := by
        cases nums with
        | nil => rfl
        | cons x l => simp at c2
      subst c3
      have m1 := mixed_ (n := 1 + (k : Int)) (k := k) (by omega) (by omega)
      have b1 := mx_lo (1 + (k : Int)) k
      have b2 := mx_hi (1 + (k : Int)) k
      have m2 := mixed_ (n := mx (1 + (k : Int)) k) (k := 5) (by omega) (by decide)
      have c1 : ¬ (k : Int) < 0 := by omega
      simp [F__law_draw, B__law_draw, DSc, i1, c1, m1, m2, dr]
section
variable {nums : List Int} {k k' : Nat} {c : Store}
@[simp] theorem DSc_len : (DSc nums k c).length = c.length + 1 := rfl
@[simp] theorem DSc_take (n : Nat) : (DSc nums k c).take (n + 1) = DSc nums k (c.take n) := rfl
@[simp] theorem DSc_take1 : (DSc nums k c).take 1 = DSc nums k [] := rfl
@[simp] theorem DSc_app (o : Store) : DSc nums k c ++ o = DSc nums k (c ++ o) := rfl
@[simp] theorem DSc_get (n : Nat) : (DSc nums k c)[n + 1]? = c[n]? := rfl
@[simp] theorem DSc_get1 : (DSc nums k c)[1]? = c[0]? := rfl
@[simp] theorem DSc_get2 : (DSc nums k c)[2]? = c[1]? := rfl
@[simp] theorem DSc_set (n : Nat) (o : OC) : (DSc nums k c).set (n + 1) o = DSc nums k (c.set n o) := rfl
@[simp] theorem DSc_set1 (o : OC) : (DSc nums k c).set 1 o = DSc nums k (c.set 0 o) := rfl
@[simp] theorem DSc_cel1 (xs : List D) (r : Store) : celM (.cel 1) (DSc nums k (.lst xs :: r)) = .ok (1, xs) (DSc nums k (.lst xs :: r)) := rfl
@[simp] theorem DSc_vws1 (xs : List D) (r : Store) : vwsM [.cel 1] (DSc nums k (.lst xs :: r)) = .ok [.list xs] (DSc nums k (.lst xs :: r)) := by
  rw [vwsM_cel [] (xs := xs) rfl]; rfl
theorem callC_DS {F : List S → M Rv} {r : List S} {x : D} (hr : noCel r = true) (e : F (.cel 0 :: r) (DSc nums k []) = .ok (.d x) (DSc nums k' [])) : callC F (.cel 0 :: r) (DSc nums k c) = .ok (.d x) (DSc nums k' c) := by
  simp only [DSc] at e ⊢
  simp [hr, e]
theorem callC_DSo {F : List S → M Rv} {r : List S} {x : OC} (hr : noCel r = true) (e : F (.cel 0 :: r) (DSc nums k []) = .ok (.own x) (DSc nums k' [])) : callC F (.cel 0 :: r) (DSc nums k c) = .ok (.own x) (DSc nums k' c) := by
  simp only [DSc] at e ⊢
  simp [hr, e]
theorem drc (h : InR nums) (hk : k < 1000000000000) (k' : Nat) (e : k' = k + 1) : callC F__law_draw [.cel 0] (DSc nums k c) = .ok (.d (.int (dr nums k))) (DSc nums k' c) := by
  subst e; exact callC_DS rfl (draw_ h hk)
end
theorem atI_mod {xs : List D} {P : D → Prop} (v : Int) (n : Int) (hn : n = (xs.length : Int)) (h0 : 0 < xs.length) (h : ∀ x ∈ xs, P x) : ∃ x, P x ∧ atI xs (v % n) = some x := by
  subst hn
  have a1 : 0 ≤ v % (xs.length : Int) := Int.emod_nonneg _ (by omega)
  have a2 : v % (xs.length : Int) < xs.length := Int.emod_lt_of_pos _ (by omega)
  have a3 : (v % (xs.length : Int)).toNat < xs.length := by omega
  refine ⟨xs[(v % (xs.length : Int)).toNat], h _ (List.getElem_mem a3), ?_⟩
  exact atI_of (n := (v % (xs.length : Int)).toNat) (by omega) (by simp [a3])
@[simp] theorem sp0 : (("plus" : Str) == ("minus" : Str)) = false := rfl
@[simp] theorem sq0 : (("plus" : Str) = ("minus" : Str)) = False := eq_false (by decide)
@[simp] theorem sp1 : (("plus" : Str) == ("min" : Str)) = false := rfl
@[simp] theorem sq1 : (("plus" : Str) = ("min" : Str)) = False := eq_false (by decide)
@[simp] theorem sp2 : (("plus" : Str) == ("max" : Str)) = false := rfl
@[simp] theorem sq2 : (("plus" : Str) = ("max" : Str)) = False := eq_false (by decide)
@[simp] theorem sp3 : (("plus" : Str) == ("times" : Str)) = false := rfl
@[simp] theorem sq3 : (("plus" : Str) = ("times" : Str)) = False := eq_false (by decide)
@[simp] theorem sp4 : (("plus" : Str) == ("over" : Str)) = false := rfl
@[simp] theorem sq4 : (("plus" : Str) = ("over" : Str)) = False := eq_false (by decide)
@[simp] theorem sp5 : (("plus" : Str) == ("if" : Str)) = false := rfl
@[simp] theorem sq5 : (("plus" : Str) = ("if" : Str)) = False := eq_false (by decide)
@[simp] theorem sp6 : (("plus" : Str) == ("loss" : Str)) = false := rfl
@[simp] theorem sq6 : (("plus" : Str) = ("loss" : Str)) = False := eq_false (by decide)
@[simp] theorem sp7 : (("plus" : Str) == ("sum" : Str)) = false := rfl
@[simp] theorem sq7 : (("plus" : Str) = ("sum" : Str)) = False := eq_false (by decide)
@[simp] theorem sp8 : (("minus" : Str) == ("plus" : Str)) = false := rfl
@[simp] theorem sq8 : (("minus" : Str) = ("plus" : Str)) = False := eq_false (by decide)
@[simp] theorem sp9 : (("minus" : Str) == ("min" : Str)) = false := rfl
@[simp] theorem sq9 : (("minus" : Str) = ("min" : Str)) = False := eq_false (by decide)
@[simp] theorem sp10 : (("minus" : Str) == ("max" : Str)) = false := rfl
@[simp] theorem sq10 : (("minus" : Str) = ("max" : Str)) = False := eq_false (by decide)
@[simp] theorem sp11 : (("minus" : Str) == ("times" : Str)) = false := rfl
@[simp] theorem sq11 : (("minus" : Str) = ("times" : Str)) = False := eq_false (by decide)
@[simp] theorem sp12 : (("minus" : Str) == ("over" : Str)) = false := rfl
@[simp] theorem sq12 : (("minus" : Str) = ("over" : Str)) = False := eq_false (by decide)
@[simp] theorem sp13 : (("minus" : Str) == ("if" : Str)) = false := rfl
@[simp] theorem sq13 : (("minus" : Str) = ("if" : Str)) = False := eq_false (by decide)
@[simp] theorem sp14 : (("minus" : Str) == ("loss" : Str)) = false := rfl
@[simp] theorem sq14 : (("minus" : Str) = ("loss" : Str)) = False := eq_false (by decide)
@[simp] theorem sp15 : (("minus" : Str) == ("sum" : Str)) = false := rfl
@[simp] theorem sq15 : (("minus" : Str) = ("sum" : Str)) = False := eq_false (by decide)
@[simp] theorem sp16 : (("min" : Str) == ("plus" : Str)) = false := rfl
@[simp] theorem sq16 : (("min" : Str) = ("plus" : Str)) = False := eq_false (by decide)
@[simp] theorem sp17 : (("min" : Str) == ("minus" : Str)) = false := rfl
@[simp] theorem sq17 : (("min" : Str) = ("minus" : Str)) = False := eq_false (by decide)
@[simp] theorem sp18 : (("min" : Str) == ("max" : Str)) = false := rfl
@[simp] theorem sq18 : (("min" : Str) = ("max" : Str)) = False := eq_false (by decide)
@[simp] theorem sp19 : (("min" : Str) == ("times" : Str)) = false := rfl
@[simp] theorem sq19 : (("min" : Str) = ("times" : Str)) = False := eq_false (by decide)
@[simp] theorem sp20 : (("min" : Str) == ("over" : Str)) = false := rfl
@[simp] theorem sq20 : (("min" : Str) = ("over" : Str)) = False := eq_false (by decide)
@[simp] theorem sp21 : (("min" : Str) == ("if" : Str)) = false := rfl
@[simp] theorem sq21 : (("min" : Str) = ("if" : Str)) = False := eq_false (by decide)
@[simp] theorem sp22 : (("min" : Str) == ("loss" : Str)) = false := rfl
@[simp] theorem sq22 : (("min" : Str) = ("loss" : Str)) = False := eq_false (by decide)
@[simp] theorem sp23 : (("min" : Str) == ("sum" : Str)) = false := rfl
@[simp] theorem sq23 : (("min" : Str) = ("sum" : Str)) = False := eq_false (by decide)
@[simp] theorem sp24 : (("max" : Str) == ("plus" : Str)) = false := rfl
@[simp] theorem sq24 : (("max" : Str) = ("plus" : Str)) = False := eq_false (by decide)
@[simp] theorem sp25 : (("max" : Str) == ("minus" : Str)) = false := rfl
@[simp] theorem sq25 : (("max" : Str) = ("minus" : Str)) = False := eq_false (by decide)
@[simp] theorem sp26 : (("max" : Str) == ("min" : Str)) = false := rfl
@[simp] theorem sq26 : (("max" : Str) = ("min" : Str)) = False := eq_false (by decide)
@[simp] theorem sp27 : (("max" : Str) == ("times" : Str)) = false := rfl
@[simp] theorem sq27 : (("max" : Str) = ("times" : Str)) = False := eq_false (by decide)
@[simp] theorem sp28 : (("max" : Str) == ("over" : Str)) = false := rfl
@[simp] theorem sq28 : (("max" : Str) = ("over" : Str)) = False := eq_false (by decide)
@[simp] theorem sp29 : (("max" : Str) == ("if" : Str)) = false := rfl
@[simp] theorem sq29 : (("max" : Str) = ("if" : Str)) = False := eq_false (by decide)
@[simp] theorem sp30 : (("max" : Str) == ("loss" : Str)) = false := rfl
@[simp] theorem sq30 : (("max" : Str) = ("loss" : Str)) = False := eq_false (by decide)
@[simp] theorem sp31 : (("max" : Str) == ("sum" : Str)) = false := rfl
@[simp] theorem sq31 : (("max" : Str) = ("sum" : Str)) = False := eq_false (by decide)
@[simp] theorem sp32 : (("times" : Str) == ("plus" : Str)) = false := rfl
@[simp] theorem sq32 : (("times" : Str) = ("plus" : Str)) = False := eq_false (by decide)
@[simp] theorem sp33 : (("times" : Str) == ("minus" : Str)) = false := rfl
@[simp] theorem sq33 : (("times" : Str) = ("minus" : Str)) = False := eq_false (by decide)
@[simp] theorem sp34 : (("times" : Str) == ("min" : Str)) = false := rfl
@[simp] theorem sq34 : (("times" : Str) = ("min" : Str)) = False := eq_false (by decide)
@[simp] theorem sp35 : (("times" : Str) == ("max" : Str)) = false := rfl
@[simp] theorem sq35 : (("times" : Str) = ("max" : Str)) = False := eq_false (by decide)
@[simp] theorem sp36 : (("times" : Str) == ("over" : Str)) = false := rfl
@[simp] theorem sq36 : (("times" : Str) = ("over" : Str)) = False := eq_false (by decide)
@[simp] theorem sp37 : (("times" : Str) == ("if" : Str)) = false := rfl
@[simp] theorem sq37 : (("times" : Str) = ("if" : Str)) = False := eq_false (by decide)
@[simp] theorem sp38 : (("times" : Str) == ("loss" : Str)) = false := rfl
@[simp] theorem sq38 : (("times" : Str) = ("loss" : Str)) = False := eq_false (by decide)
@[simp] theorem sp39 : (("times" : Str) == ("sum" : Str)) = false := rfl
@[simp] theorem sq39 : (("times" : Str) = ("sum" : Str)) = False := eq_false (by decide)
@[simp] theorem sp40 : (("over" : Str) == ("plus" : Str)) = false := rfl
@[simp] theorem sq40 : (("over" : Str) = ("plus" : Str)) = False := eq_false (by decide)
@[simp] theorem sp41 : (("over" : Str) == ("minus" : Str)) = false := rfl
@[simp] theorem sq41 : (("over" : Str) = ("minus" : Str)) = False := eq_false (by decide)
@[simp] theorem sp42 : (("over" : Str) == ("min" : Str)) = false := rfl
@[simp] theorem sq42 : (("over" : Str) = ("min" : Str)) = False := eq_false (by decide)
@[simp] theorem sp43 : (("over" : Str) == ("max" : Str)) = false := rfl
@[simp] theorem sq43 : (("over" : Str) = ("max" : Str)) = False := eq_false (by decide)
@[simp] theorem sp44 : (("over" : Str) == ("times" : Str)) = false := rfl
@[simp] theorem sq44 : (("over" : Str) = ("times" : Str)) = False := eq_false (by decide)
@[simp] theorem sp45 : (("over" : Str) == ("if" : Str)) = false := rfl
@[simp] theorem sq45 : (("over" : Str) = ("if" : Str)) = False := eq_false (by decide)
@[simp] theorem sp46 : (("over" : Str) == ("loss" : Str)) = false := rfl
@[simp] theorem sq46 : (("over" : Str) = ("loss" : Str)) = False := eq_false (by decide)
@[simp] theorem sp47 : (("over" : Str) == ("sum" : Str)) = false := rfl
@[simp] theorem sq47 : (("over" : Str) = ("sum" : Str)) = False := eq_false (by decide)
@[simp] theorem sp48 : (("if" : Str) == ("plus" : Str)) = false := rfl
@[simp] theorem sq48 : (("if" : Str) = ("plus" : Str)) = False := eq_false (by decide)
@[simp] theorem sp49 : (("if" : Str) == ("minus" : Str)) = false := rfl
@[simp] theorem sq49 : (("if" : Str) = ("minus" : Str)) = False := eq_false (by decide)
@[simp] theorem sp50 : (("if" : Str) == ("min" : Str)) = false := rfl
@[simp] theorem sq50 : (("if" : Str) = ("min" : Str)) = False := eq_false (by decide)
@[simp] theorem sp51 : (("if" : Str) == ("max" : Str)) = false := rfl
@[simp] theorem sq51 : (("if" : Str) = ("max" : Str)) = False := eq_false (by decide)
@[simp] theorem sp52 : (("if" : Str) == ("times" : Str)) = false := rfl
@[simp] theorem sq52 : (("if" : Str) = ("times" : Str)) = False := eq_false (by decide)
@[simp] theorem sp53 : (("if" : Str) == ("over" : Str)) = false := rfl
@[simp] theorem sq53 : (("if" : Str) = ("over" : Str)) = False := eq_false (by decide)
@[simp] theorem sp54 : (("if" : Str) == ("loss" : Str)) = false := rfl
@[simp] theorem sq54 : (("if" : Str) = ("loss" : Str)) = False := eq_false (by decide)
@[simp] theorem sp55 : (("if" : Str) == ("sum" : Str)) = false := rfl
@[simp] theorem sq55 : (("if" : Str) = ("sum" : Str)) = False := eq_false (by decide)
@[simp] theorem sp56 : (("loss" : Str) == ("plus" : Str)) = false := rfl
@[simp] theorem sq56 : (("loss" : Str) = ("plus" : Str)) = False := eq_false (by decide)
@[simp] theorem sp57 : (("loss" : Str) == ("minus" : Str)) = false := rfl
@[simp] theorem sq57 : (("loss" : Str) = ("minus" : Str)) = False := eq_false (by decide)
@[simp] theorem sp58 : (("loss" : Str) == ("min" : Str)) = false := rfl
@[simp] theorem sq58 : (("loss" : Str) = ("min" : Str)) = False := eq_false (by decide)
@[simp] theorem sp59 : (("loss" : Str) == ("max" : Str)) = false := rfl
@[simp] theorem sq59 : (("loss" : Str) = ("max" : Str)) = False := eq_false (by decide)
@[simp] theorem sp60 : (("loss" : Str) == ("times" : Str)) = false := rfl
@[simp] theorem sq60 : (("loss" : Str) = ("times" : Str)) = False := eq_false (by decide)
@[simp] theorem sp61 : (("loss" : Str) == ("over" : Str)) = false := rfl
@[simp] theorem sq61 : (("loss" : Str) = ("over" : Str)) = False := eq_false (by decide)
@[simp] theorem sp62 : (("loss" : Str) == ("if" : Str)) = false := rfl
@[simp] theorem sq62 : (("loss" : Str) = ("if" : Str)) = False := eq_false (by decide)
@[simp] theorem sp63 : (("loss" : Str) == ("sum" : Str)) = false := rfl
@[simp] theorem sq63 : (("loss" : Str) = ("sum" : Str)) = False := eq_false (by decide)
@[simp] theorem sp64 : (("sum" : Str) == ("plus" : Str)) = false := rfl
@[simp] theorem sq64 : (("sum" : Str) = ("plus" : Str)) = False := eq_false (by decide)
@[simp] theorem sp65 : (("sum" : Str) == ("minus" : Str)) = false := rfl
@[simp] theorem sq65 : (("sum" : Str) = ("minus" : Str)) = False := eq_false (by decide)
@[simp] theorem sp66 : (("sum" : Str) == ("min" : Str)) = false := rfl
@[simp] theorem sq66 : (("sum" : Str) = ("min" : Str)) = False := eq_false (by decide)
@[simp] theorem sp67 : (("sum" : Str) == ("max" : Str)) = false := rfl
@[simp] theorem sq67 : (("sum" : Str) = ("max" : Str)) = False := eq_false (by decide)
@[simp] theorem sp68 : (("sum" : Str) == ("times" : Str)) = false := rfl
@[simp] theorem sq68 : (("sum" : Str) = ("times" : Str)) = False := eq_false (by decide)
@[simp] theorem sp69 : (("sum" : Str) == ("over" : Str)) = false := rfl
@[simp] theorem sq69 : (("sum" : Str) = ("over" : Str)) = False := eq_false (by decide)
@[simp] theorem sp70 : (("sum" : Str) == ("if" : Str)) = false := rfl
@[simp] theorem sq70 : (("sum" : Str) = ("if" : Str)) = False := eq_false (by decide)
@[simp] theorem sp71 : (("sum" : Str) == ("loss" : Str)) = false := rfl
@[simp] theorem sq71 : (("sum" : Str) = ("loss" : Str)) = False := eq_false (by decide)
theorem is_number_ (x a b : Int) : F_is_number [.d (.int x), .d (.int a), .d (.int b)] [] = .ok (.d (.bool (decide (a ≤ x) && decide (x ≤ b)))) [] := by
  simp [F_is_number, B_is_number]
  by_cases h : a ≤ x <;> simp [h]
theorem is_number_s (x : Str) (a b : Int) : F_is_number [.d (.str x), .d (.int a), .d (.int b)] [] = .ok (.d (.bool false)) [] := by
  simp [F_is_number, B_is_number]
theorem is_number_t (x : List D) (a b : Int) : F_is_number [.d (.tuple x), .d (.int a), .d (.int b)] [] = .ok (.d (.bool false)) [] := by
  simp [F_is_number, B_is_number]
theorem is_money_ (x : Int) : F_is_money [.d (.int x)] [] = .ok (.d (.bool (decide (0 ≤ x) && decide (x ≤ 1000000000000)))) [] := by
  simp [F_is_money, B_is_money, is_number_]
theorem is_money_t (x : List D) : F_is_money [.d (.tuple x)] [] = .ok (.d (.bool false)) [] := by
  simp [F_is_money, B_is_money, is_number_t]
inductive Op | plus | minus | min | max
def Op.nm : Op → Str | plus => "plus" | minus => "minus" | min => "min" | max => "max"
def Op.ap : Op → Int → Int → Int | plus, x, y => x + y | minus, x, y => x - y | min, x, y => if y < x then y else x | max, x, y => if y > x then y else x
inductive Py
  | loss | sum | num (k : Int) | times (k : Int) (p : Py) | over (p : Py) (a b : Int) | iff (a b : Int) (p q : Py) | bin (o : Op) (p q : Py)
def enc : Py → D
  | .loss => .str "loss"
  | .sum => .str "sum"
  | .num k => .int k
  | .times k p => .tuple [.str "times", .int k, enc p]
  | .over p a b => .tuple [.str "over", enc p, .int a, .int b]
  | .iff a b p q => .tuple [.str "if", .int a, .int b, enc p, enc q]
  | .bin o p q => .tuple [.str o.nm, enc p, enc q]
def Good : Py → Prop
  | .loss => True
  | .sum => True
  | .num k => 0 ≤ k ∧ k ≤ 1000000000000
  | .times k p => 0 ≤ k ∧ k ≤ 1000 ∧ Good p
  | .over p a b => 0 ≤ a ∧ a ≤ 1000000000000 ∧ 0 ≤ b ∧ b ≤ 1000000000000 ∧ Good p
  | .iff a b p q => 0 ≤ a ∧ a ≤ b ∧ b ≤ 1000000000000 ∧ Good p ∧ Good q
  | .bin _ p q => Good p ∧ Good q
def kids : Py → List Py
  | .times _ p => [p]
  | .over p _ _ => [p]
  | .iff _ _ p q => [p, q]
  | .bin _ p q => [p, q]
  | _ => []
def sz : Py → Nat
  | .times _ p => sz p + 1
  | .over p _ _ => sz p + 1
  | .iff _ _ p q => sz p + sz q + 1
  | .bin _ p q => sz p + sz q + 1
  | _ => 1
theorem pays_in_ : ∀ (p : Py), Good p → ∃ r, F_pays_in [.d (enc p)] [] = .ok r [] ∧ (r = .d (.list ((kids p).map enc)) ∨ r = .own (.lst ((kids p).map enc)))
  | .loss, _ => by simp [F_pays_in, B_pays_in, enc, kids]
  | .sum, _ => by simp [F_pays_in, B_pays_in, enc, kids]
  | .num k, h => by simp [Good] at h; simp [F_pays_in, B_pays_in, enc, kids, is_money_, h]
  | .times k p, h => by simp [Good] at h; simp [F_pays_in, B_pays_in, enc, kids, is_money_t, is_money_, is_number_, h]
  | .over p a b, h => by simp [Good] at h; simp [F_pays_in, B_pays_in, enc, kids, is_money_t, is_money_, is_number_, h]
  | .iff a b p q, h => by simp [Good] at h; simp [F_pays_in, B_pays_in, enc, kids, is_money_t, is_money_, is_number_, h, (by omega : 0 ≤ b), (by omega : a ≤ 1000000000000)]
  | .bin o p q, h => by simp [Good] at h; cases o <;> simp [F_pays_in, B_pays_in, enc, kids, is_money_t, is_money_, is_number_, h, Op.nm]
def tot (l : List Py) : Nat := (l.map sz).sum
theorem tot_cons (p : Py) (l : List Py) : tot (p :: l) = sz p + tot l := by simp [tot]
theorem tot_app (p l : List Py) : tot (p ++ l) = tot p + tot l := by simp [tot]
theorem tot_rev (l : List Py) : tot l.reverse = tot l := by simp [tot]
theorem sz_kids (p : Py) : sz p = tot (kids p) + 1 := by cases p <;> simp [sz, kids, tot]
theorem good_kids {p : Py} (h : Good p) : ∀ q ∈ kids p, Good q := by cases p <;> simp_all [Good, kids]
theorem len_tot (l : List Py) : l.length ≤ tot l := by
  induction l with
  | nil => simp
  | cons p l ih => rw [tot_cons, sz_kids, List.length_cons]; omega
theorem few_loop (K : PySem.W.Frag) (a : S) : ∀ (n : Nat) (st : List Py) (k : Nat) (s : S), tot st < n → k + tot st ≤ 60 → (∀ q ∈ st, Good q) → ∃ s', gWhile (tAndM (tT (eV 2)) (op2 leD (eV 3) (eC (.int (60))))) (gSeq (sSet 4 (eFrz (eCallL 1 (He.ga K "pays_in") F_pays_in (aCons (eMt0 popG (eV 2)) aNil))))
      (gSeq (sIf (op1 isnD (eV 4)) (sRet (eRv (eC (.bool false)))) gNil)
      (gSeq (sSet 3 (eBin addD (eV 3) (eC (.int (1)))))
      (sExp (eMt extG (eV 2) (aCons (eV 4) aNil)))))) n [a, .fn (He.ga K "pays_in"), .cel 0, .d (.int k), s] [.lst (st.reverse.map enc)] = .nx [a, .fn (He.ga K "pays_in"), .cel 0, .d (.int ((k + tot st : Nat) : Int)), s'] [.lst []] := by
  intro n
  induction n with
  | zero => intro st k s h; omega
  | succ n ih =>
    intro st k s h1 h2 h3
    cases st with
    | nil => rw [gWhile_succ]; simp [tot]
    | cons q st =>
      obtain ⟨r, e1, e2⟩ := pays_in_ q (h3 q (by simp))
      have e0 := sz_kids q
      rw [tot_cons] at h1 h2
      have l1 := len_tot st
      have l2 := len_tot (kids q)
      obtain ⟨s', i1⟩ := ih ((kids q).reverse ++ st) (k + 1) (.d (.list ((kids q).map enc))) (by rw [tot_app, tot_rev]; omega) (by rw [tot_app, tot_rev]; omega) (by
        intro x hx
        rcases List.mem_append.1 hx with hx | hx
        · exact good_kids (h3 q (by simp)) x (List.mem_reverse.1 hx)
        · exact h3 x (by simp [hx]))
      have i2 : ((kids q).reverse ++ st).reverse.map enc = st.reverse.map enc ++ (kids q).map enc := by simp
      rw [i2] at i1
      have i3 : ((k + 1 + tot ((kids q).reverse ++ st) : Nat) : Int) = ((k + tot (q :: st) : Nat) : Int) := by rw [tot_app, tot_rev, tot_cons]; omega
      rw [i3] at i1
      have i4 : (k : Int) ≤ 60 := by omega
      have i5 : st.length ≤ sizeLine := size_ok (by omega)
      have i6 : st.length + 1 ≤ sizeLine := size_ok (by omega)
      have i7 : st.length + (kids q).length ≤ sizeLine := size_ok (by omega)
      have i8 : ((k + 1 : Nat) : Int) = (k : Int) + 1 := by omega
      rw [i8] at i1
      refine ⟨s', ?_⟩
      rw [gWhile_succ]
      rcases e2 with e2 | e2 <;> subst e2 <;> simp at i1 <;> simp [i4, i5, i6, i7, e1, i1]
theorem few_ (K : PySem.W.Frag) (p : Py) (h : Good p) (h2 : sz p ≤ 60) : F_are_few__pays_in K [.d (enc p), .fn (He.ga K "pays_in")] [] = .ok (.d (.bool true)) [] := by
  obtain ⟨s', e⟩ := few_loop K (.d (enc p)) 100 [p] 0 .no (by simp [tot]; omega) (by simp [tot]; omega) (by simp [h])
  have e2 : tot [p] = sz p := by simp [tot]
  rw [e2] at e
  simp at e
  simp [F_are_few__pays_in, B_are_few__pays_in, sWhile, e]
  omega
theorem is_pay_ (K : PySem.W.Frag) (p : Py) (h : Good p) (h2 : sz p ≤ 60) : F_is_pay K [.d (enc p)] [] = .ok (.d (.bool true)) [] := by
  simp [F_is_pay, B_is_pay, few_ K p h h2]
/-- what it pays -/
def val (t s : Int) : Py → Int
  | .loss => s
  | .sum => t
  | .num k => k
  | .times k p => k * val t s p
  | .over p a b => let x := val t s p - b; let y := if 0 > x then 0 else x; if a < y then a else y
  | .iff a b p q => if a ≤ s ∧ s ≤ b then val t s p else val t s q
  | .bin o p q => o.ap (val t s p) (val t s q)
def dep : Py → Nat
  | .times _ p => dep p + 1
  | .over p _ _ => dep p + 1
  | .iff _ _ p q => max (dep p) (dep q) + 1
  | .bin _ p q => max (dep p) (dep q) + 1
  | _ => 0
theorem val_le {t s : Int} (ht : t.natAbs ≤ 1000000000000) (hs : s.natAbs ≤ 1000000000000) : ∀ (p : Py), Good p → (val t s p).natAbs ≤ 1000000000000 * 1000 ^ dep p
  | .loss, h => by simp [val, dep]; exact hs
  | .sum, h => by simp [val, dep]; exact ht
  | .num k, h => by simp [Good] at h; simp [val, dep]; omega
  | .times k p, h => by
    simp [Good] at h
    have e := val_le ht hs p h.2.2
    simp only [val, dep, Int.natAbs_mul, Nat.pow_succ]
    have e2 : k.natAbs ≤ 1000 := by omega
    have e3 := Nat.mul_le_mul e2 e
    generalize 1000 ^ dep p = z at e e3 ⊢
    omega
  | .over p a b, h => by
    simp [Good] at h
    have e : 0 < 1000 ^ dep p := Nat.pow_pos (by decide)
    simp only [val, dep, Nat.pow_succ]
    generalize 1000 ^ dep p = z at e ⊢
    generalize val t s p = y
    repeat' split
    all_goals omega
  | .iff a b p q, h => by
    simp [Good] at h
    have e := val_le ht hs p h.2.2.2.1
    have e' := val_le ht hs q h.2.2.2.2
    simp only [val, dep, Nat.pow_succ]
    have g1 : 1000 ^ dep p ≤ 1000 ^ max (dep p) (dep q) := Nat.pow_le_pow_right (by decide) (Nat.le_max_left _ _)
    have g2 : 1000 ^ dep q ≤ 1000 ^ max (dep p) (dep q) := Nat.pow_le_pow_right (by decide) (Nat.le_max_right _ _)
    generalize 1000 ^ dep p = z1 at *
    generalize 1000 ^ dep q = z2 at *
    generalize 1000 ^ max (dep p) (dep q) = z at *
    split <;> omega
  | .bin o p q, h => by
    simp [Good] at h
    have e := val_le ht hs p h.1
    have e' := val_le ht hs q h.2
    simp only [val, dep, Nat.pow_succ]
    have g1 : 1000 ^ dep p ≤ 1000 ^ max (dep p) (dep q) := Nat.pow_le_pow_right (by decide) (Nat.le_max_left _ _)
    have g2 : 1000 ^ dep q ≤ 1000 ^ max (dep p) (dep q) := Nat.pow_le_pow_right (by decide) (Nat.le_max_right _ _)
    generalize 1000 ^ dep p = z1 at *
    generalize 1000 ^ dep q = z2 at *
    generalize 1000 ^ max (dep p) (dep q) = z at *
    generalize val t s p = x at *
    generalize val t s q = y at *
    cases o <;> simp only [Op.ap] <;> (try split) <;> omega
theorem val_log {t s : Int} (ht : t.natAbs ≤ 1000000000000) (hs : s.natAbs ≤ 1000000000000) {p : Py} (h : Good p) (hd : dep p ≤ 64) : (val t s p).natAbs.log2 < 800 := by
  refine log2_lt (by omega) (Nat.lt_of_le_of_lt (val_le ht hs p h) ?_)
  have : (1000 : Nat) ^ dep p ≤ 1000 ^ 64 := Nat.pow_le_pow_right (by omega) hd
  exact Nat.lt_of_le_of_lt (Nat.mul_le_mul_left _ this) (by decide)
theorem paid_by_ {t s : Int} (ht : t.natAbs ≤ 1000000000000) (hs : s.natAbs ≤ 1000000000000) : ∀ (p : Py) (n : Nat), Good p → dep p < n → dep p ≤ 64 → F_paid_by n [.d (enc p), .d (.int t), .d (.int s)] [] = .ok (.d (.int (val t s p))) []
  | p, 0, _, h, _ => by omega
  | .loss, n + 1, h, hd, h8 => by simp [F_paid_by, B_paid_by, enc, val]
  | .sum, n + 1, h, hd, h8 => by simp [F_paid_by, B_paid_by, enc, val]
  | .num k, n + 1, h, hd, h8 => by simp [F_paid_by, B_paid_by, enc, val]
  | .times k p, n + 1, h, hd, h8 => by
    simp [Good] at h
    simp [dep] at hd h8
    have e := paid_by_ ht hs p n h.2.2 hd (by omega)
    have e1 := val_log ht hs h.2.2 (by omega)
    have e2 : k.natAbs.log2 < 20 := log2_lt (by omega) (by omega)
    have e3 : k.natAbs.log2 + (val t s p).natAbs.log2 < 1000000 := by omega
    simp [F_paid_by, B_paid_by, enc, val, e, e3]
  | .over p a b, n + 1, h, hd, h8 => by
    simp [Good] at h
    simp [dep] at hd h8
    have e := paid_by_ ht hs p n h.2.2.2.2 hd (by omega)
    simp [F_paid_by, B_paid_by, enc, val, e]
  | .iff a b p q, n + 1, h, hd, h8 => by
    simp [Good] at h
    simp [dep] at hd h8
    have e := paid_by_ ht hs p n h.2.2.2.1 (by omega) (by omega)
    have e' := paid_by_ ht hs q n h.2.2.2.2 (by omega) (by omega)
    by_cases c1 : a ≤ s <;> by_cases c2 : s ≤ b <;> simp [F_paid_by, B_paid_by, enc, val, e, e', c1, c2]
  | .bin o p q, n + 1, h, hd, h8 => by
    simp [Good] at h
    simp [dep] at hd h8
    have e := paid_by_ ht hs p n h.1 (by omega) (by omega)
    have e' := paid_by_ ht hs q n h.2 (by omega) (by omega)
    cases o <;> simp [F_paid_by, B_paid_by, enc, val, e, e', Op.nm, Op.ap]
/-! rows that are straight in pieces -/
structure Rw where
  f : Int
  l : Int
  s : Int
  a : Int
def eR (r : Rw) : D := .tuple [.int r.f, .int r.l, .int r.s, .int r.a]
def Rep : List Rw → Int → Int → (Int → Int) → Prop
  | [], x0, x1, _ => x0 = x1 + 1
  | r :: rs, x0, x1, F => r.f = x0 ∧ r.f ≤ r.l ∧ (∀ x, r.f ≤ x → x ≤ r.l → F x = r.a + r.s * (x - r.f)) ∧ Rep rs (r.l + 1) x1 F
theorem Rep.le {F : Int → Int} : ∀ {rs : List Rw} {x0 x1 : Int}, Rep rs x0 x1 F → x0 ≤ x1 + 1
  | [], x0, x1, h => Int.le_of_eq h
  | r :: rs, x0, x1, h => by
    obtain ⟨h1, h2, h3, h4⟩ := h
    have := h4.le
    omega
theorem rep_app {F : Int → Int} : ∀ {l1 l2 : List Rw} {x0 x1 : Int}, Rep (l1 ++ l2) x0 x1 F ↔ ∃ c, Rep l1 x0 c F ∧ Rep l2 (c + 1) x1 F
  | [], l2, x0, x1 => by
    constructor
    · intro h
      exact ⟨x0 - 1, by show x0 = x0 - 1 + 1; omega, by rw [show x0 - 1 + 1 = x0 by omega]; exact h⟩
    · rintro ⟨c, h1, h2⟩
      have h1' : x0 = c + 1 := h1
      rw [h1']; exact h2
  | r :: l1, l2, x0, x1 => by
    constructor
    · rintro ⟨h1, h2, h3, h4⟩
      obtain ⟨c, h5, h6⟩ := rep_app.1 h4
      exact ⟨c, ⟨h1, h2, h3, h5⟩, h6⟩
    · rintro ⟨c, ⟨h1, h2, h3, h5⟩, h6⟩
      exact ⟨h1, h2, h3, rep_app.2 ⟨c, h5, h6⟩⟩
theorem rep_one {F : Int → Int} {r : Rw} {x0 x1 : Int} : Rep [r] x0 x1 F ↔ r.f = x0 ∧ r.f ≤ r.l ∧ r.l = x1 ∧ ∀ x, r.f ≤ x → x ≤ r.l → F x = r.a + r.s * (x - r.f) := by
  constructor
  · rintro ⟨h1, h2, h3, h4⟩
    have h4' : r.l + 1 = x1 + 1 := h4
    exact ⟨h1, h2, by omega, h3⟩
  · rintro ⟨h1, h2, h4, h3⟩
    exact ⟨h1, h2, h3, by show r.l + 1 = x1 + 1; omega⟩
theorem Rep.congr {F G : Int → Int} : ∀ {rs : List Rw} {x0 x1 : Int}, Rep rs x0 x1 F → (∀ x, x0 ≤ x → x ≤ x1 → F x = G x) → Rep rs x0 x1 G
  | [], _, _, h, _ => h
  | r :: rs, x0, x1, ⟨h1, h2, h3, h4⟩, e => by
    have l := h4.le
    refine ⟨h1, h2, fun x a b => ?_, h4.congr fun x a b => e x (by omega) b⟩
    rw [← e x (by omega) (by omega)]
    exact h3 x a b
structure Bd (r : Rw) : Prop where
  f0 : 0 ≤ r.f
  fl : r.f ≤ r.l
  lm : r.l ≤ 1000000000000
  sb : r.s.natAbs < 2 ^ 100
  ab : r.a.natAbs < 2 ^ 100
def Nm (r : Rw) : Prop := r.l = r.f → r.s = 0
def nrm (r : Rw) : Rw := ⟨r.f, r.l, if r.f < r.l then r.s else 0, r.a⟩
def jstep (found : List Rw) (r : Rw) : List Rw := match found.getLast? with
  | some p => if p.s = (nrm r).s ∧ p.a + (nrm r).s * (r.f - p.f) = r.a then found.dropLast ++ [⟨p.f, r.l, (nrm r).s, p.a⟩] else found ++ [nrm r]
  | none => found ++ [nrm r]
theorem jstep_nil (r : Rw) : jstep [] r = [nrm r] := rfl
theorem jstep_snoc (init : List Rw) (p r : Rw) : jstep (init ++ [p]) r = if p.s = (nrm r).s ∧ p.a + (nrm r).s * (r.f - p.f) = r.a then init ++ [⟨p.f, r.l, (nrm r).s, p.a⟩] else init ++ [p] ++ [nrm r] := by
  unfold jstep
  rw [List.getLast?_append, List.getLast?_singleton]
  simp
theorem nil_or_snoc {α : Type} (l : List α) : l = [] ∨ ∃ i p, l = i ++ [p] := by
  rcases List.eq_nil_or_concat l with h | ⟨i, p, h⟩
  · exact .inl h
  · exact .inr ⟨i, p, by rw [h, List.concat_eq_append]⟩
theorem jstep_len (found : List Rw) (r : Rw) : (jstep found r).length ≤ found.length + 1 := by
  rcases nil_or_snoc found with rfl | ⟨i, p, rfl⟩
  · simp [jstep_nil]
  · rw [jstep_snoc]; split <;> simp
theorem jstep_all {P : Rw → Prop} (hn : ∀ r, P r → P (nrm r)) (hm : ∀ p r, P p → P r → P ⟨p.f, r.l, (nrm r).s, p.a⟩ ∨ ¬ (p.s = (nrm r).s ∧ p.a + (nrm r).s * (r.f - p.f) = r.a)) {found : List Rw} {r : Rw} (h : ∀ q ∈ found, P q) (hr : P r) : ∀ q ∈ jstep found r, P q := by
  rcases nil_or_snoc found with rfl | ⟨i, p, rfl⟩
  · rw [jstep_nil]; intro q hq; rw [List.mem_singleton.1 hq]; exact hn r hr
  · rw [jstep_snoc]
    have hp := h p (by simp)
    split
    · rename_i c
      intro q hq
      rcases List.mem_append.1 hq with hq | hq
      · exact h q (by simp [hq])
      · rw [List.mem_singleton.1 hq]
        exact (hm p r hp hr).resolve_right fun z => z c
    · intro q hq
      rcases List.mem_append.1 hq with hq | hq
      · exact h q hq
      · rw [List.mem_singleton.1 hq]; exact hn r hr
theorem jstep_rep {F : Int → Int} {found : List Rw} {r : Rw} {x0 : Int} (h : Rep found x0 (r.f - 1) F) (hl : r.f ≤ r.l) (hr : ∀ x, r.f ≤ x → x ≤ r.l → F x = r.a + r.s * (x - r.f)) : Rep (jstep found r) x0 r.l F := by
  have hn : ∀ x, r.f ≤ x → x ≤ r.l → F x = r.a + (nrm r).s * (x - r.f) := fun x h1 h2 => by
    rw [hr x h1 h2]
    unfold nrm
    dsimp only
    split
    · rfl
    · rw [show x - r.f = 0 by omega]; simp
  have hn1 : Rep [nrm r] r.f r.l F := rep_one.2 ⟨rfl, hl, rfl, hn⟩
  rcases nil_or_snoc found with rfl | ⟨i, p, rfl⟩
  · have h' : x0 = r.f - 1 + 1 := h
    rw [jstep_nil, show x0 = r.f by omega]
    exact hn1
  · rw [jstep_snoc]
    split
    · rename_i c
      obtain ⟨d, h1, h2⟩ := rep_app.1 h
      obtain ⟨e1, e2, e3, e4⟩ := rep_one.1 h2
      refine rep_app.2 ⟨d, h1, rep_one.2 ⟨e1, ?_, rfl, fun x a b => ?_⟩⟩
      · show p.f ≤ r.l; omega
      · have a' : p.f ≤ x := a
        have b' : x ≤ r.l := b
        show F x = p.a + (nrm r).s * (x - p.f)
        by_cases q : x ≤ p.l
        · rw [e4 x a' q, c.1]
        · rw [hn x (by omega) b', ← c.2, Int.add_assoc, ← Int.mul_add]
          congr 2
          omega
    · exact rep_app.2 ⟨r.f - 1, h, by rw [show r.f - 1 + 1 = r.f by omega]; exact hn1⟩
theorem fold_rep {F : Int → Int} : ∀ (rs found : List Rw) (c x0 x1 : Int), Rep found x0 (c - 1) F → Rep rs c x1 F → Rep (rs.foldl jstep found) x0 x1 F
  | [], found, c, x0, x1, h, hr => by
    have hr' : c = x1 + 1 := hr
    rw [show c - 1 = x1 by omega] at h
    exact h
  | r :: rs, found, c, x0, x1, h, hr => by
    obtain ⟨h1, h2, h3, h4⟩ := hr
    rw [List.foldl_cons]
    have q := jstep_rep (r := r) (by rw [h1]; exact h) h2 h3
    exact fold_rep rs (jstep found r) (r.l + 1) x0 x1 (by rw [show r.l + 1 - 1 = r.l by omega]; exact q) h4
theorem jstep_nm {F : Int → Int} {found : List Rw} {r : Rw} {x0 : Int} (h : Rep found x0 (r.f - 1) F) (hl : r.f ≤ r.l) (hn : ∀ q ∈ found, Nm q) : ∀ q ∈ jstep found r, Nm q := by
  have hr : Nm (nrm r) := fun e => by
    have e' : r.l = r.f := e
    show (if r.f < r.l then r.s else 0) = 0
    rw [if_neg (by omega)]
  rcases nil_or_snoc found with rfl | ⟨i, p, rfl⟩
  · rw [jstep_nil]; intro q hq; rw [List.mem_singleton.1 hq]; exact hr
  · rw [jstep_snoc]
    split
    · intro q hq
      rcases List.mem_append.1 hq with hq | hq
      · exact hn q (by simp [hq])
      · rw [List.mem_singleton.1 hq]
        obtain ⟨d, h1, h2⟩ := rep_app.1 h
        obtain ⟨e1, e2, e3, e4⟩ := rep_one.1 h2
        intro e
        have e' : r.l = p.f := e
        omega
    · intro q hq
      rcases List.mem_append.1 hq with hq | hq
      · exact hn q hq
      · rw [List.mem_singleton.1 hq]; exact hr
theorem fold_nm {F : Int → Int} : ∀ (rs found : List Rw) (c x0 x1 : Int), Rep found x0 (c - 1) F → Rep rs c x1 F → (∀ q ∈ found, Nm q) → ∀ q ∈ rs.foldl jstep found, Nm q
  | [], found, c, x0, x1, h, hr, hn => hn
  | r :: rs, found, c, x0, x1, h, hr, hn => by
    obtain ⟨h1, h2, h3, h4⟩ := hr
    rw [List.foldl_cons]
    have q := jstep_rep (r := r) (by rw [h1]; exact h) h2 h3
    exact fold_nm rs (jstep found r) (r.l + 1) x0 x1 (by rw [show r.l + 1 - 1 = r.l by omega]; exact q) h4 (jstep_nm (by rw [h1]; exact h) h2 hn)
theorem fold_len : ∀ (rs found : List Rw), (rs.foldl jstep found).length ≤ found.length + rs.length
  | [], found => by simp
  | r :: rs, found => by
    have a := fold_len rs (jstep found r)
    have b := jstep_len found r
    rw [List.foldl_cons, List.length_cons]; omega
def jn (rs : List Rw) : List Rw := rs.foldl jstep []
/-- rows of a function over 0 .. M, each with a slope that tells -/
structure Ln (rs : List Rw) (F : Int → Int) : Prop where
  r : Rep rs 0 1000000000000 F
  n : ∀ q ∈ rs, Nm q
theorem jn_ln {rs : List Rw} {F : Int → Int} (h : Rep rs 0 1000000000000 F) : Ln (jn rs) F :=
  ⟨fold_rep rs [] 0 0 _ (by show (0 : Int) = 0 - 1 + 1; omega) h, fold_nm rs [] 0 0 _ (by show (0 : Int) = 0 - 1 + 1; omega) h (by simp)⟩
theorem jn_len (rs : List Rw) : (jn rs).length ≤ rs.length := by
  have := fold_len rs []
  rw [List.length_nil, Nat.zero_add] at this
  exact this
theorem Rep.mem {F : Int → Int} : ∀ {rs : List Rw} {x0 x1 : Int}, Rep rs x0 x1 F → ∀ q ∈ rs, x0 ≤ q.f ∧ q.f ≤ q.l ∧ q.l ≤ x1 ∧ ∀ x, q.f ≤ x → x ≤ q.l → F x = q.a + q.s * (x - q.f)
  | [], _, _, _, q, hq => by cases hq
  | r :: rs, x0, x1, ⟨h1, h2, h3, h4⟩, q, hq => by
    have l := h4.le
    rcases List.mem_cons.1 hq with rfl | hq
    · exact ⟨by omega, h2, by omega, h3⟩
    · obtain ⟨a, b, c, d⟩ := h4.mem q hq
      exact ⟨by omega, b, c, d⟩
/-- bounds of rows by the bounds of the function -/
theorem Ln.bd {rs : List Rw} {F : Int → Int} (h : Ln rs F) {B : Nat} (hB : ∀ x, 0 ≤ x → x ≤ 1000000000000 → (F x).natAbs ≤ B) : ∀ q ∈ rs, 0 ≤ q.f ∧ q.f ≤ q.l ∧ q.l ≤ 1000000000000 ∧ q.a.natAbs ≤ B ∧ q.s.natAbs ≤ 2 * B := fun q hq => by
  obtain ⟨a, b, c, d⟩ := h.r.mem q hq
  have e1 := d q.f (by omega) b
  rw [Int.sub_self, Int.mul_zero, Int.add_zero] at e1
  have b1 := hB q.f (by omega) (by omega)
  refine ⟨a, b, c, by rw [← e1]; exact b1, ?_⟩
  by_cases z : q.l = q.f
  · rw [h.n q hq z]; simp
  · have e2 := d (q.f + 1) (by omega) (by omega)
    rw [show q.f + 1 - q.f = 1 by omega, Int.mul_one] at e2
    have b2 := hB (q.f + 1) (by omega) (by omega)
    omega
theorem sFor_of {tg : D → List S → Option (List S)} {it : List S → M (List D)} {body : G} {ρ : List S} {cs cs1 : Store} {xs : List D} {o : Out} (h1 : it ρ cs = .ok xs cs1) (h2 : gFor tg body xs ρ cs1 = o) : sFor tg it body ρ cs = o := by
  simp [h1, h2]
theorem gSeq_of {g h : G} {ρ ρ' : List S} {cs cs' : Store} {o : Out} (h1 : g ρ cs = .nx ρ' cs') (h2 : h ρ' cs' = o) : gSeq g h ρ cs = o := by
  rw [gSeq_, h1]; exact h2
theorem mulB {x y : Int} (hx : x.natAbs < 2 ^ 200) (hy : y.natAbs < 2 ^ 200) : mulD (.int x) (.int y) = some (.int (x * y)) := mulD_lt (Nat.lt_trans hx (by decide)) (Nat.lt_trans hy (by decide))
theorem set_last {α : Type} (i : List α) (p x : α) : (i ++ [p]).set i.length x = i ++ [x] := by
  rw [List.set_append_right _ _ (Nat.le_refl _), Nat.sub_self]; rfl
/-- one step of joined -/
theorem joined_step (v : S) {found : List Rw} {r : Rw} {s6 s7 s8 s9 : S} (hl : found.length < 10000000) (hp : ∀ p ∈ found, 0 ≤ p.f ∧ p.f ≤ 1000000000000) (h0 : 0 ≤ r.f) (h1 : r.f ≤ 1000000000000) (hs : r.s.natAbs < 2 ^ 200) :
    ∃ t6 t7 t8 t9, (gSeq (sSet 4 (eIf (op2 gtD (eV 3) (eV 2)) (eV 4) (eC (.int (0)))))
      (gSeq (sIf (tT (eV 1)) (gSeq (sTgt (gtT (gtsCons (gtN 6) (gtsCons (gtN 7) (gtsCons (gtN 8) (gtsCons (gtN 9) gtsNil))))) (eBin ixD (eV 1) (eBin subD (eCd lenG (aCons (eV 1) aNil)) (eC (.int (1))))))
        (sIf (tAndM (op2 eqD (eV 8) (eV 4)) (op2 eqD (eBin addD (eV 9) (eBin mulD (eV 4) (eBin subD (eV 2) (eV 6)))) (eV 5))) (gSeq (sSub (eV 1) (eBin subD (eCd lenG (aCons (eV 1) aNil)) (eC (.int (1)))) (eTup (aCons (eV 6) (aCons (eV 3) (aCons (eV 4) (aCons (eV 9) aNil))))))
          gCon) gNil)) gNil)
      (sExp (eMt appG (eV 1) (aCons (eTup (aCons (eV 2) (aCons (eV 3) (aCons (eV 4) (aCons (eV 5) aNil))))) aNil))))) [v, .cel 0, .d (.int r.f), .d (.int r.l), .d (.int r.s), .d (.int r.a), s6, s7, s8, s9] [.lst (found.map eR)] = .nx [v, .cel 0, .d (.int r.f), .d (.int r.l), .d (.int (nrm r).s), .d (.int r.a), t6, t7, t8, t9] [.lst ((jstep found r).map eR)] ∨
      (gSeq (sSet 4 (eIf (op2 gtD (eV 3) (eV 2)) (eV 4) (eC (.int (0)))))
      (gSeq (sIf (tT (eV 1)) (gSeq (sTgt (gtT (gtsCons (gtN 6) (gtsCons (gtN 7) (gtsCons (gtN 8) (gtsCons (gtN 9) gtsNil))))) (eBin ixD (eV 1) (eBin subD (eCd lenG (aCons (eV 1) aNil)) (eC (.int (1))))))
        (sIf (tAndM (op2 eqD (eV 8) (eV 4)) (op2 eqD (eBin addD (eV 9) (eBin mulD (eV 4) (eBin subD (eV 2) (eV 6)))) (eV 5))) (gSeq (sSub (eV 1) (eBin subD (eCd lenG (aCons (eV 1) aNil)) (eC (.int (1)))) (eTup (aCons (eV 6) (aCons (eV 3) (aCons (eV 4) (aCons (eV 9) aNil))))))
          gCon) gNil)) gNil)
      (sExp (eMt appG (eV 1) (aCons (eTup (aCons (eV 2) (aCons (eV 3) (aCons (eV 4) (aCons (eV 5) aNil))))) aNil))))) [v, .cel 0, .d (.int r.f), .d (.int r.l), .d (.int r.s), .d (.int r.a), s6, s7, s8, s9] [.lst (found.map eR)] = .ct [v, .cel 0, .d (.int r.f), .d (.int r.l), .d (.int (nrm r).s), .d (.int r.a), t6, t7, t8, t9] [.lst ((jstep found r).map eR)] := by
  have hs' : (nrm r).s.natAbs < 2 ^ 200 := by
    show (if r.f < r.l then r.s else 0 : Int).natAbs < 2 ^ 200
    split
    · exact hs
    · decide
  have e0 : ∀ {cs : Store}, sSet 4 (eIf (op2 gtD (eV 3) (eV 2)) (eV 4) (eC (.int (0)))) [v, .cel 0, .d (.int r.f), .d (.int r.l), .d (.int r.s), .d (.int r.a), s6, s7, s8, s9] cs = .nx [v, .cel 0, .d (.int r.f), .d (.int r.l), .d (.int (nrm r).s), .d (.int r.a), s6, s7, s8, s9] cs := fun {cs} => by
    by_cases c : r.f < r.l <;> simp [nrm, c]
  have en : nrm r = ⟨r.f, r.l, (nrm r).s, r.a⟩ := rfl
  have er : eR (nrm r) = .tuple [.int r.f, .int r.l, .int (nrm r).s, .int r.a] := rfl
  rcases nil_or_snoc found with rfl | ⟨i, p, rfl⟩
  · refine ⟨s6, s7, s8, s9, .inl (gSeq_of e0 ?_)⟩
    rw [jstep_nil, List.map_cons, er]
    generalize (nrm r).s = s at *
    simp
  · have hpp := hp p (by simp)
    rw [List.length_append, List.length_singleton] at hl
    have z1 : i.length + 1 < sizeLine := size_lt (by omega)
    have z2 : i.length + 1 ≤ sizeLine := size_ok (by omega)
    have at1 : atI (i.map eR ++ [.tuple [.int p.f, .int p.l, .int p.s, .int p.a]]) (i.length : Int) = some (.tuple [.int p.f, .int p.l, .int p.s, .int p.a]) := atI_of rfl (by simp)
    have mu : mulD (.int (nrm r).s) (.int (r.f - p.f)) = some (.int ((nrm r).s * (r.f - p.f))) := mulB hs' (Nat.lt_of_le_of_lt (m := 1000000000000) (by omega) (by decide))
    have ix : ixN (i.length + 1) (i.length : Int) = some i.length := by
      unfold ixN
      rw [if_pos (by omega), if_pos (by omega)]
      simp
    have st : ∀ x : D, (i.map eR ++ [eR p]).set i.length x = i.map eR ++ [x] := fun x => by
      have := set_last (i.map eR) (eR p) x
      rwa [List.length_map] at this
    rw [jstep_snoc]
    by_cases c1 : p.s = (nrm r).s
    · by_cases c2 : p.a + (nrm r).s * (r.f - p.f) = r.a
      · rw [if_pos ⟨c1, c2⟩]
        refine ⟨.d (.int p.f), .d (.int p.l), .d (.int p.s), .d (.int p.a), .inr (gSeq_of e0 ?_)⟩
        rw [List.map_append, List.map_append, List.map_cons, List.map_nil, List.map_cons, List.map_nil, show eR ⟨p.f, r.l, (nrm r).s, p.a⟩ = .tuple [.int p.f, .int r.l, .int (nrm r).s, .int p.a] from rfl]
        generalize (nrm r).s = s at *
        subst c1
        simp [at1, mu, c2, ix, st, z2, eR, -mulD_int]
      · rw [if_neg fun z => c2 z.2]
        refine ⟨.d (.int p.f), .d (.int p.l), .d (.int p.s), .d (.int p.a), .inl (gSeq_of e0 ?_)⟩
        rw [List.map_append, List.map_append, List.map_cons, List.map_nil, List.map_cons, List.map_nil, er]
        generalize (nrm r).s = s at *
        subst c1
        simp [at1, mu, c2, z1, z2, eR, -mulD_int]
    · rw [if_neg fun z => c1 z.1]
      refine ⟨.d (.int p.f), .d (.int p.l), .d (.int p.s), .d (.int p.a), .inl (gSeq_of e0 ?_)⟩
      rw [List.map_append, List.map_append, List.map_cons, List.map_nil, List.map_cons, List.map_nil, er]
      generalize (nrm r).s = s at *
      simp [at1, c1, z1, z2, eR, -mulD_int]
theorem joined_loop {F : Int → Int} (v : S) : ∀ (rs found : List Rw) (c : Int) (s2 s3 s4 s5 s6 s7 s8 s9 : S), Rep found 0 (c - 1) F → Rep rs c 1000000000000 F → (∀ r ∈ rs, r.s.natAbs < 2 ^ 200) → found.length + rs.length < 10000000 →
    ∃ t2 t3 t4 t5 t6 t7 t8 t9, gFor (gtT (gtsCons (gtN 2) (gtsCons (gtN 3) (gtsCons (gtN 4) (gtsCons (gtN 5) gtsNil))))) (gSeq (sSet 4 (eIf (op2 gtD (eV 3) (eV 2)) (eV 4) (eC (.int (0)))))
      (gSeq (sIf (tT (eV 1)) (gSeq (sTgt (gtT (gtsCons (gtN 6) (gtsCons (gtN 7) (gtsCons (gtN 8) (gtsCons (gtN 9) gtsNil))))) (eBin ixD (eV 1) (eBin subD (eCd lenG (aCons (eV 1) aNil)) (eC (.int (1))))))
        (sIf (tAndM (op2 eqD (eV 8) (eV 4)) (op2 eqD (eBin addD (eV 9) (eBin mulD (eV 4) (eBin subD (eV 2) (eV 6)))) (eV 5))) (gSeq (sSub (eV 1) (eBin subD (eCd lenG (aCons (eV 1) aNil)) (eC (.int (1)))) (eTup (aCons (eV 6) (aCons (eV 3) (aCons (eV 4) (aCons (eV 9) aNil))))))
          gCon) gNil)) gNil)
      (sExp (eMt appG (eV 1) (aCons (eTup (aCons (eV 2) (aCons (eV 3) (aCons (eV 4) (aCons (eV 5) aNil))))) aNil))))) (rs.map eR) [v, .cel 0, s2, s3, s4, s5, s6, s7, s8, s9] [.lst (found.map eR)] = .nx [v, .cel 0, t2, t3, t4, t5, t6, t7, t8, t9] [.lst ((rs.foldl jstep found).map eR)]
  | [], found, c, s2, s3, s4, s5, s6, s7, s8, s9, _, _, _, _ => ⟨s2, s3, s4, s5, s6, s7, s8, s9, rfl⟩
  | r :: rs, found, c, s2, s3, s4, s5, s6, s7, s8, s9, h, hr, hs, hl => by
    obtain ⟨h1, h2, h3, h4⟩ := hr
    rw [List.length_cons] at hl
    have l4 := h4.le
    have l0 := h.le
    have jl := jstep_len found r
    obtain ⟨t6, t7, t8, t9, q⟩ := joined_step v (found := found) (r := r) (s6 := s6) (s7 := s7) (s8 := s8) (s9 := s9) (by omega) (fun p hp => by have := h.mem p hp; omega) (by omega) (by omega) (hs r (by simp))
    have jr := jstep_rep (r := r) (x0 := 0) (by rw [h1]; exact h) h2 h3
    obtain ⟨u2, u3, u4, u5, u6, u7, u8, u9, e⟩ := joined_loop (F := F) v rs (jstep found r) (r.l + 1) (.d (.int r.f)) (.d (.int r.l)) (.d (.int (nrm r).s)) (.d (.int r.a)) t6 t7 t8 t9 (by rw [show r.l + 1 - 1 = r.l by omega]; exact jr) h4 (fun x hx => hs x (by simp [hx])) (by omega)
    refine ⟨u2, u3, u4, u5, u6, u7, u8, u9, ?_⟩
    rw [List.map_cons, gFor_cons, List.foldl_cons]
    simp only [eR, gtT_, gtsCons_, gtN_, gtsNil_, Option.bind_some, List.set_cons_succ, List.set_cons_zero]
    rcases q with q | q
    · rw [q]; exact e
    · rw [q]; exact e
theorem joined_ {F : Int → Int} {rs : List Rw} (h : Rep rs 0 1000000000000 F) (hs : ∀ r ∈ rs, r.s.natAbs < 2 ^ 200) (hl : rs.length < 1000000) : F_joined [.d (.list (rs.map eR))] [] = .ok (.own (.lst ((jn rs).map eR))) [] := by
  obtain ⟨u2, u3, u4, u5, u6, u7, u8, u9, e⟩ := joined_loop (F := F) (.d (.list (rs.map eR))) rs [] 0 .no .no .no .no .no .no .no .no (by show (0 : Int) = 0 - 1 + 1; omega) h hs (by simp; omega)
  have b1 : sNew 1 (eLst aNil) [.d (.list (rs.map eR)), .no, .no, .no, .no, .no, .no, .no, .no, .no] [] = .nx [.d (.list (rs.map eR)), .cel 0, .no, .no, .no, .no, .no, .no, .no, .no] [.lst []] := by simp
  have b2 := sFor_of (it := iAnyM (eV 0)) (cs := [.lst []]) (cs1 := [.lst []]) (by simp) e
  have b3 : sRet (eRv (eV 1)) [.d (.list (rs.map eR)), .cel 0, u2, u3, u4, u5, u6, u7, u8, u9] [.lst ((jn rs).map eR)] = .rt (.cel 0) [.lst ((jn rs).map eR)] := by simp
  have b4 := gSeq_of b1 (gSeq_of b2 b3)
  unfold F_joined
  rw [runG_]
  exact (congrArg (fin 0) b4).trans (by simp [fin_cel])
@[simp] theorem absG_ (x : Int) : absG [.int x] = some (.int (if x < 0 then -x else x)) := rfl
/-- a comprehension over coded things -/
theorem lcMap {α : Type} {tg : D → List S → Option (List S)} {t : List S → M Bool} {f : List S → M S} {ρ : List S} {cs : Store} (e : α → D) (p : α → Bool) (g : α → D) : ∀ (xs : List α) (acc : List D), (∀ x ∈ xs, ∃ ρ', tg (e x) ρ = some ρ' ∧ t ρ' cs = .ok (p x) cs ∧ (p x = true → f ρ' cs = .ok (.d (g x)) cs)) → acc.length + xs.length < 16000000 →
    lcL tg t f ρ (xs.map e) acc cs = .ok (.own (.lst (acc ++ (xs.filter p).map g))) cs
  | [], acc, _, _ => by simp
  | x :: xs, acc, h, hl => by
    obtain ⟨ρ', h1, h2, h3⟩ := h x (by simp)
    rw [List.length_cons] at hl
    rw [List.map_cons, lcL_cons, h1]
    cases hp : p x with
    | false =>
      simp only [bnd_, noEr_, h2, hp, Bool.false_eq_true, if_false, List.filter_cons]
      exact lcMap e p g xs acc (fun y hy => h y (by simp [hy])) (by omega)
    | true =>
      have ih := lcMap e p g xs (acc ++ [g x]) (fun y hy => h y (by simp [hy])) (by simp; omega)
      have hlt : acc.length < sizeLine := size_lt (by omega)
      simp only [bnd_, noEr_, h2, h3 hp, hp, if_true, List.filter_cons, if_pos hlt, ih]
      simp
theorem lcAll {α : Type} {tg : D → List S → Option (List S)} {f : List S → M S} {ρ : List S} {cs : Store} (e : α → D) (g : α → D) (xs : List α) (h : ∀ x ∈ xs, ∃ ρ', tg (e x) ρ = some ρ' ∧ f ρ' cs = .ok (.d (g x)) cs) (hl : xs.length < 16000000) :
    lcL tg tYesM f ρ (xs.map e) [] cs = .ok (.own (.lst (xs.map g))) cs := by
  have := lcMap (tg := tg) (t := tYesM) (f := f) (ρ := ρ) (cs := cs) e (fun _ => true) g xs [] (fun x hx => by
    obtain ⟨ρ', h1, h2⟩ := h x hx
    exact ⟨ρ', h1, rfl, fun _ => h2⟩) (by simpa using hl)
  rw [this, List.nil_append, List.filter_eq_self.2 (fun _ _ => rfl)]
theorem map_rep {F G : Int → Int} (g : Rw → Rw) (hf : ∀ r, (g r).f = r.f) (hl : ∀ r, (g r).l = r.l) (hv : ∀ (r : Rw) (x : Int), F x = r.a + r.s * (x - r.f) → G x = (g r).a + (g r).s * (x - r.f)) : ∀ {rs : List Rw} {x0 x1 : Int}, Rep rs x0 x1 F → Rep (rs.map g) x0 x1 G
  | [], _, _, h => h
  | r :: rs, x0, x1, ⟨h1, h2, h3, h4⟩ => by
    refine ⟨by rw [hf]; exact h1, by rw [hf, hl]; exact h2, fun x a b => ?_, ?_⟩
    · rw [hf] at a; rw [hl] at b; rw [hf]
      exact hv r x (h3 x a b)
    · rw [hl]; exact map_rep g hf hl hv h4
theorem multiplied_ {F : Int → Int} {rs : List Rw} {k : Int} {B : Nat} (h : Ln rs F) (hB : ∀ x, 0 ≤ x → x ≤ 1000000000000 → (F x).natAbs ≤ B) (hB2 : B ≤ 2 ^ 80) (hk : k.natAbs ≤ 2 ^ 80) (hl : rs.length < 1000000) :
    ∃ rs', F_multiplied [.d (.list (rs.map eR)), .d (.int k)] [] = .ok (.own (.lst (rs'.map eR))) [] ∧ Ln rs' (fun x => F x * k) ∧ rs'.length ≤ rs.length := by
  have bd := h.bd hB
  let g : Rw → Rw := fun r => ⟨r.f, r.l, r.s * k, r.a * k⟩
  have hr : Rep (rs.map g) 0 1000000000000 (fun x => F x * k) := map_rep g (fun _ => rfl) (fun _ => rfl) (fun r x e => by
    show F x * k = r.a * k + r.s * k * (x - r.f)
    rw [e, Int.add_mul, Int.mul_assoc, Int.mul_assoc, Int.mul_comm k]) h.r
  have hs : ∀ q ∈ rs.map g, q.s.natAbs < 2 ^ 200 := fun q hq => by
    obtain ⟨r, h1, rfl⟩ := List.mem_map.1 hq
    show (r.s * k).natAbs < 2 ^ 200
    rw [Int.natAbs_mul]
    have b := bd r h1
    exact Nat.lt_of_le_of_lt (Nat.mul_le_mul (Nat.le_trans b.2.2.2.2 (Nat.mul_le_mul_left 2 hB2)) hk) (by decide)
  have lc := lcAll (cs := []) (tg := gtT (gtsCons (gtN 2) (gtsCons (gtN 3) (gtsCons (gtN 4) (gtsCons (gtN 5) gtsNil))))) (f := eTup (aCons (eV 2) (aCons (eV 3) (aCons (eBin mulD (eV 4) (eV 1)) (aCons (eBin mulD (eV 5) (eV 1)) aNil))))) (ρ := [.d (.list (rs.map eR)), .d (.int k), .no, .no, .no, .no]) eR (fun r => eR (g r)) rs (fun r hr => by
    have b := bd r hr
    have m1 : mulD (.int r.s) (.int k) = some (.int (r.s * k)) := mulB (Nat.lt_of_le_of_lt (Nat.le_trans b.2.2.2.2 (Nat.mul_le_mul_left 2 hB2)) (by decide)) (Nat.lt_of_le_of_lt hk (by decide))
    have m2 : mulD (.int r.a) (.int k) = some (.int (r.a * k)) := mulB (Nat.lt_of_le_of_lt (Nat.le_trans b.2.2.2.1 hB2) (by decide)) (Nat.lt_of_le_of_lt hk (by decide))
    refine ⟨[.d (.list (rs.map eR)), .d (.int k), .d (.int r.f), .d (.int r.l), .d (.int r.s), .d (.int r.a)], rfl, ?_⟩
    simp [m1, m2, -mulD_int]; rfl) (by omega)
  have j := joined_ hr hs (by rw [List.length_map]; exact hl)
  rw [List.map_map] at j
  have j' : F_joined [.d (.list (rs.map fun r => eR (g r)))] [] = .ok (.own (.lst ((jn (rs.map g)).map eR))) [] := j
  refine ⟨jn (rs.map g), ?_, jn_ln hr, by have := jn_len (rs.map g); rwa [List.length_map] at this⟩
  unfold F_multiplied B_multiplied
  rw [runG_]
  simp [lc, j']
def eP (p : Rw × Rw) : D := .tuple [.int p.1.f, .int p.1.l, .int p.1.s, .int p.1.a, .int p.2.s, .int p.2.a]
structure PR (ps : List (Rw × Rw)) (c : Int) (F G : Int → Int) : Prop where
  one : Rep (ps.map (·.1)) c 1000000000000 F
  two : Rep (ps.map (·.2)) c 1000000000000 G
  same : ∀ p ∈ ps, p.1.f = p.2.f ∧ p.1.l = p.2.l
  sl : ∀ p ∈ ps, p.1.s.natAbs ≤ 2 ^ 100 ∧ p.2.s.natAbs ≤ 2 ^ 100
def atR (r : Rw) (f l : Int) : Rw := ⟨f, l, r.s, r.a + r.s * (f - r.f)⟩
def pq (r q : Rw) (c : Int) : Rw × Rw := (atR r c (min r.l q.l), atR q c (min r.l q.l))
def Sm (r : Rw) : Prop := 0 ≤ r.f ∧ r.f ≤ 1000000000000 ∧ r.s.natAbs ≤ 2 ^ 100
theorem paired_step (L1 L2 : List D) (i j : Nat) (found : List D) (s5 s6 s7 s8 : S) {r q : Rw} {c : Int} (hr : Sm r) (hq : Sm q) (h1 : atI L1 (i : Int) = some (eR r)) (h2 : atI L2 (j : Int) = some (eR q)) (c1 : r.f ≤ c) (c2 : q.f ≤ c) (c3 : c = r.f ∨ c = q.f) (hf : found.length < 1000000) :
    (gSeq (sSet 5 (eCd maxG (aCons (eBin ixD (eBin ixD (eV 0) (eV 3)) (eC (.int (0)))) (aCons (eBin ixD (eBin ixD (eV 1) (eV 4)) (eC (.int (0)))) aNil))))
      (gSeq (sSet 6 (eCd minG (aCons (eBin ixD (eBin ixD (eV 0) (eV 3)) (eC (.int (1)))) (aCons (eBin ixD (eBin ixD (eV 1) (eV 4)) (eC (.int (1)))) aNil))))
      (gSeq (sSet 7 (eBin addD (eBin ixD (eBin ixD (eV 0) (eV 3)) (eC (.int (3)))) (eBin mulD (eBin ixD (eBin ixD (eV 0) (eV 3)) (eC (.int (2)))) (eBin subD (eV 5) (eBin ixD (eBin ixD (eV 0) (eV 3)) (eC (.int (0))))))))
      (gSeq (sSet 8 (eBin addD (eBin ixD (eBin ixD (eV 1) (eV 4)) (eC (.int (3)))) (eBin mulD (eBin ixD (eBin ixD (eV 1) (eV 4)) (eC (.int (2)))) (eBin subD (eV 5) (eBin ixD (eBin ixD (eV 1) (eV 4)) (eC (.int (0))))))))
      (gSeq (sExp (eMt appG (eV 2) (aCons (eTup (aCons (eV 5) (aCons (eV 6) (aCons (eBin ixD (eBin ixD (eV 0) (eV 3)) (eC (.int (2)))) (aCons (eV 7) (aCons (eBin ixD (eBin ixD (eV 1) (eV 4)) (eC (.int (2)))) (aCons (eV 8) aNil))))))) aNil)))
      (gSeq (sIf (op2 eqD (eBin ixD (eBin ixD (eV 0) (eV 3)) (eC (.int (1)))) (eV 6)) (sSet 3 (eBin addD (eV 3) (eC (.int (1))))) gNil)
      (sIf (op2 eqD (eBin ixD (eBin ixD (eV 1) (eV 4)) (eC (.int (1)))) (eV 6)) (sSet 4 (eBin addD (eV 4) (eC (.int (1))))) gNil))))))) [.d (.list L1), .d (.list L2), .cel 0, .d (.int i), .d (.int j), s5, s6, s7, s8] [.lst found] =
      .nx [.d (.list L1), .d (.list L2), .cel 0, .d (.int (if r.l = min r.l q.l then ((i + 1 : Nat) : Int) else i)), .d (.int (if q.l = min r.l q.l then ((j + 1 : Nat) : Int) else j)), .d (.int c), .d (.int (min r.l q.l)), .d (.int (pq r q c).1.a), .d (.int (pq r q c).2.a)] [.lst (found ++ [eP (pq r q c)])] := by
  have m1 : maxG [.int r.f, .int q.f] = some (.int c) := by
    rw [maxG_]
    split <;> (congr 2; omega)
  have m2 : minG [.int r.l, .int q.l] = some (.int (min r.l q.l)) := by
    rw [minG_]
    split <;> (congr 2; omega)
  have cc : (c - r.f).natAbs ≤ 1000000000000 ∧ (c - q.f).natAbs ≤ 1000000000000 := by
    obtain ⟨a1, a2, a3⟩ := hr
    obtain ⟨b1, b2, b3⟩ := hq
    omega
  have m3 : mulD (.int r.s) (.int (c - r.f)) = some (.int (r.s * (c - r.f))) := mulB (Nat.lt_of_le_of_lt hr.2.2 (by decide)) (Nat.lt_of_le_of_lt cc.1 (by decide))
  have m4 : mulD (.int q.s) (.int (c - q.f)) = some (.int (q.s * (c - q.f))) := mulB (Nat.lt_of_le_of_lt hq.2.2 (by decide)) (Nat.lt_of_le_of_lt cc.2 (by decide))
  have z1 : found.length ≤ sizeLine := size_ok (by omega)
  have e1 : eR r = .tuple [.int r.f, .int r.l, .int r.s, .int r.a] := rfl
  have e2 : eR q = .tuple [.int q.f, .int q.l, .int q.s, .int q.a] := rfl
  rw [e1] at h1; rw [e2] at h2
  have i1 : ((i + 1 : Nat) : Int) = (i : Int) + 1 := by omega
  have j1 : ((j + 1 : Nat) : Int) = (j : Int) + 1 := by omega
  rw [i1, j1]
  unfold eP pq atR
  dsimp only
  generalize min r.l q.l = m at *
  have z2 : found.length < sizeLine := size_lt (by omega)
  by_cases x1 : r.l = m <;> by_cases x2 : q.l = m <;> (try simp only [x1, x2] at m2) <;> simp [h1, h2, m1, m2, m3, m4, z1, z2, x1, x2, -mulD_int, -maxG_, -minG_]
theorem gWhile_go {t : List S → M Bool} {body : G} {n : Nat} {ρ ρ' : List S} {cs cs1 cs' : Store} (h1 : t ρ cs = .ok true cs1) (h2 : body ρ cs1 = .nx ρ' cs') : gWhile t body (n + 1) ρ cs = gWhile t body n ρ' cs' := by
  rw [gWhile_succ]; simp [h1, h2]
theorem gWhile_end {t : List S → M Bool} {body : G} {n : Nat} {ρ : List S} {cs cs1 : Store} (h1 : t ρ cs = .ok false cs1) : gWhile t body (n + 1) ρ cs = .nx ρ cs1 := by
  rw [gWhile_succ]; simp [h1]
theorem at_rep {F : Int → Int} {r : Rw} {c l : Int} (h : ∀ x, r.f ≤ x → x ≤ r.l → F x = r.a + r.s * (x - r.f)) (h1 : r.f ≤ c) (h2 : l ≤ r.l) : ∀ x, c ≤ x → x ≤ l → F x = (r.a + r.s * (c - r.f)) + r.s * (x - c) := fun x a b => by
  rw [h x (by omega) (by omega), Int.add_assoc, ← Int.mul_add]
  congr 2
  omega
theorem map_at {l1 rs : List Rw} {r : Rw} {L : List D} (h : L = (l1 ++ r :: rs).map eR) : atI L (l1.length : Int) = some (eR r) := by
  subst h
  exact atI_of rfl (by simp)
theorem paired_loop {F G : Int → Int} {one two : List Rw} : ∀ (n : Nat) (l1 : List Rw) (r : Rw) (rs l2 : List Rw) (q : Rw) (qs : List Rw) (c : Int) (found : List D) (s5 s6 s7 s8 : S), one = l1 ++ r :: rs → two = l2 ++ q :: qs → Rep (r :: rs) r.f 1000000000000 F → Rep (q :: qs) q.f 1000000000000 G → (∀ x ∈ one, Sm x) → (∀ x ∈ two, Sm x) → r.f ≤ c → q.f ≤ c → (c = r.f ∨ c = q.f) → c ≤ r.l → c ≤ q.l → rs.length + qs.length + 1 < n → found.length + rs.length + qs.length + 1 < 1000000 →
    ∃ ps s3' s4' s5' s6' s7' s8', gWhile (tAndM (op2 ltD (eV 3) (eCd lenG (aCons (eV 0) aNil))) (op2 ltD (eV 4) (eCd lenG (aCons (eV 1) aNil)))) (gSeq (sSet 5 (eCd maxG (aCons (eBin ixD (eBin ixD (eV 0) (eV 3)) (eC (.int (0)))) (aCons (eBin ixD (eBin ixD (eV 1) (eV 4)) (eC (.int (0)))) aNil))))
      (gSeq (sSet 6 (eCd minG (aCons (eBin ixD (eBin ixD (eV 0) (eV 3)) (eC (.int (1)))) (aCons (eBin ixD (eBin ixD (eV 1) (eV 4)) (eC (.int (1)))) aNil))))
      (gSeq (sSet 7 (eBin addD (eBin ixD (eBin ixD (eV 0) (eV 3)) (eC (.int (3)))) (eBin mulD (eBin ixD (eBin ixD (eV 0) (eV 3)) (eC (.int (2)))) (eBin subD (eV 5) (eBin ixD (eBin ixD (eV 0) (eV 3)) (eC (.int (0))))))))
      (gSeq (sSet 8 (eBin addD (eBin ixD (eBin ixD (eV 1) (eV 4)) (eC (.int (3)))) (eBin mulD (eBin ixD (eBin ixD (eV 1) (eV 4)) (eC (.int (2)))) (eBin subD (eV 5) (eBin ixD (eBin ixD (eV 1) (eV 4)) (eC (.int (0))))))))
      (gSeq (sExp (eMt appG (eV 2) (aCons (eTup (aCons (eV 5) (aCons (eV 6) (aCons (eBin ixD (eBin ixD (eV 0) (eV 3)) (eC (.int (2)))) (aCons (eV 7) (aCons (eBin ixD (eBin ixD (eV 1) (eV 4)) (eC (.int (2)))) (aCons (eV 8) aNil))))))) aNil)))
      (gSeq (sIf (op2 eqD (eBin ixD (eBin ixD (eV 0) (eV 3)) (eC (.int (1)))) (eV 6)) (sSet 3 (eBin addD (eV 3) (eC (.int (1))))) gNil)
      (sIf (op2 eqD (eBin ixD (eBin ixD (eV 1) (eV 4)) (eC (.int (1)))) (eV 6)) (sSet 4 (eBin addD (eV 4) (eC (.int (1))))) gNil))))))) n [.d (.list (one.map eR)), .d (.list (two.map eR)), .cel 0, .d (.int l1.length), .d (.int l2.length), s5, s6, s7, s8] [.lst found] =
      .nx [.d (.list (one.map eR)), .d (.list (two.map eR)), .cel 0, s3', s4', s5', s6', s7', s8'] [.lst (found ++ ps.map eP)] ∧ PR ps c F G ∧ ps.length ≤ rs.length + qs.length + 1
  | 0, _, _, _, _, _, _, _, _, _, _, _, _, _, _, _, _, _, _, _, _, _, _, _, h, _ => by omega
  | n + 1, l1, r, rs, l2, q, qs, c, found, s5, s6, s7, s8, e1, e2, hR, hQ, b1, b2, c1, c2, c3, c4, c5, hn, hl => by
    obtain ⟨_, fl1, v1, R⟩ := hR
    obtain ⟨_, fl2, v2, Q⟩ := hQ
    have lr := R.le
    have lq := Q.le
    have st := paired_step (one.map eR) (two.map eR) l1.length l2.length found s5 s6 s7 s8 (b1 r (by simp [e1])) (b2 q (by simp [e2])) (map_at (by rw [e1])) (map_at (by rw [e2])) c1 c2 c3 (by omega)
    have t1 : ((l1.length : Nat) : Int) < ((one.map eR).length : Int) := by rw [e1]; simp; omega
    have t2 : ((l2.length : Nat) : Int) < ((two.map eR).length : Int) := by rw [e2]; simp; omega
    have tt : (tAndM (op2 ltD (eV 3) (eCd lenG (aCons (eV 0) aNil))) (op2 ltD (eV 4) (eCd lenG (aCons (eV 1) aNil)))) [.d (.list (one.map eR)), .d (.list (two.map eR)), .cel 0, .d (.int l1.length), .d (.int l2.length), s5, s6, s7, s8] [.lst found] = .ok true [.lst found] := by
      generalize one.map eR = L1 at *
      generalize two.map eR = L2 at *
      simp [t1, t2]
    have V1 := at_rep (c := c) (l := min r.l q.l) v1 c1 (by omega)
    have V2 := at_rep (c := c) (l := min r.l q.l) v2 c2 (by omega)
    have go : gWhile (tAndM (op2 ltD (eV 3) (eCd lenG (aCons (eV 0) aNil))) (op2 ltD (eV 4) (eCd lenG (aCons (eV 1) aNil)))) (gSeq (sSet 5 (eCd maxG (aCons (eBin ixD (eBin ixD (eV 0) (eV 3)) (eC (.int (0)))) (aCons (eBin ixD (eBin ixD (eV 1) (eV 4)) (eC (.int (0)))) aNil))))
      (gSeq (sSet 6 (eCd minG (aCons (eBin ixD (eBin ixD (eV 0) (eV 3)) (eC (.int (1)))) (aCons (eBin ixD (eBin ixD (eV 1) (eV 4)) (eC (.int (1)))) aNil))))
      (gSeq (sSet 7 (eBin addD (eBin ixD (eBin ixD (eV 0) (eV 3)) (eC (.int (3)))) (eBin mulD (eBin ixD (eBin ixD (eV 0) (eV 3)) (eC (.int (2)))) (eBin subD (eV 5) (eBin ixD (eBin ixD (eV 0) (eV 3)) (eC (.int (0))))))))
      (gSeq (sSet 8 (eBin addD (eBin ixD (eBin ixD (eV 1) (eV 4)) (eC (.int (3)))) (eBin mulD (eBin ixD (eBin ixD (eV 1) (eV 4)) (eC (.int (2)))) (eBin subD (eV 5) (eBin ixD (eBin ixD (eV 1) (eV 4)) (eC (.int (0))))))))
      (gSeq (sExp (eMt appG (eV 2) (aCons (eTup (aCons (eV 5) (aCons (eV 6) (aCons (eBin ixD (eBin ixD (eV 0) (eV 3)) (eC (.int (2)))) (aCons (eV 7) (aCons (eBin ixD (eBin ixD (eV 1) (eV 4)) (eC (.int (2)))) (aCons (eV 8) aNil))))))) aNil)))
      (gSeq (sIf (op2 eqD (eBin ixD (eBin ixD (eV 0) (eV 3)) (eC (.int (1)))) (eV 6)) (sSet 3 (eBin addD (eV 3) (eC (.int (1))))) gNil)
      (sIf (op2 eqD (eBin ixD (eBin ixD (eV 1) (eV 4)) (eC (.int (1)))) (eV 6)) (sSet 4 (eBin addD (eV 4) (eC (.int (1))))) gNil))))))) (n + 1) [.d (.list (one.map eR)), .d (.list (two.map eR)), .cel 0, .d (.int l1.length), .d (.int l2.length), s5, s6, s7, s8] [.lst found] = gWhile (tAndM (op2 ltD (eV 3) (eCd lenG (aCons (eV 0) aNil))) (op2 ltD (eV 4) (eCd lenG (aCons (eV 1) aNil)))) (gSeq (sSet 5 (eCd maxG (aCons (eBin ixD (eBin ixD (eV 0) (eV 3)) (eC (.int (0)))) (aCons (eBin ixD (eBin ixD (eV 1) (eV 4)) (eC (.int (0)))) aNil))))
      (gSeq (sSet 6 (eCd minG (aCons (eBin ixD (eBin ixD (eV 0) (eV 3)) (eC (.int (1)))) (aCons (eBin ixD (eBin ixD (eV 1) (eV 4)) (eC (.int (1)))) aNil))))
      (gSeq (sSet 7 (eBin addD (eBin ixD (eBin ixD (eV 0) (eV 3)) (eC (.int (3)))) (eBin mulD (eBin ixD (eBin ixD (eV 0) (eV 3)) (eC (.int (2)))) (eBin subD (eV 5) (eBin ixD (eBin ixD (eV 0) (eV 3)) (eC (.int (0))))))))
      (gSeq (sSet 8 (eBin addD (eBin ixD (eBin ixD (eV 1) (eV 4)) (eC (.int (3)))) (eBin mulD (eBin ixD (eBin ixD (eV 1) (eV 4)) (eC (.int (2)))) (eBin subD (eV 5) (eBin ixD (eBin ixD (eV 1) (eV 4)) (eC (.int (0))))))))
      (gSeq (sExp (eMt appG (eV 2) (aCons (eTup (aCons (eV 5) (aCons (eV 6) (aCons (eBin ixD (eBin ixD (eV 0) (eV 3)) (eC (.int (2)))) (aCons (eV 7) (aCons (eBin ixD (eBin ixD (eV 1) (eV 4)) (eC (.int (2)))) (aCons (eV 8) aNil))))))) aNil)))
      (gSeq (sIf (op2 eqD (eBin ixD (eBin ixD (eV 0) (eV 3)) (eC (.int (1)))) (eV 6)) (sSet 3 (eBin addD (eV 3) (eC (.int (1))))) gNil)
      (sIf (op2 eqD (eBin ixD (eBin ixD (eV 1) (eV 4)) (eC (.int (1)))) (eV 6)) (sSet 4 (eBin addD (eV 4) (eC (.int (1))))) gNil))))))) n [.d (.list (one.map eR)), .d (.list (two.map eR)), .cel 0, .d (.int (if r.l = min r.l q.l then ((l1.length + 1 : Nat) : Int) else l1.length)), .d (.int (if q.l = min r.l q.l then ((l2.length + 1 : Nat) : Int) else l2.length)), .d (.int c), .d (.int (min r.l q.l)), .d (.int (pq r q c).1.a), .d (.int (pq r q c).2.a)] [.lst (found ++ [eP (pq r q c)])] := by
      exact gWhile_go tt st
    rw [go]
    have fin : ∀ ps, PR ps (min r.l q.l + 1) F G → PR (pq r q c :: ps) c F G := fun ps h => by
      refine ⟨⟨rfl, ?_, V1, h.one⟩, ⟨rfl, ?_, V2, h.two⟩, fun p hp => ?_, fun p hp => ?_⟩
      · show c ≤ min r.l q.l; omega
      · show c ≤ min r.l q.l; omega
      · rcases List.mem_cons.1 hp with rfl | hp
        · exact ⟨rfl, rfl⟩
        · exact h.same p hp
      · rcases List.mem_cons.1 hp with rfl | hp
        · exact ⟨(b1 r (by simp [e1])).2.2, (b2 q (by simp [e2])).2.2⟩
        · exact h.sl p hp
    rcases Int.lt_trichotomy r.l q.l with lt | eq | gt
    · rw [if_pos (by omega), if_neg (by omega)]
      cases rs with
      | nil => have R' : r.l + 1 = 1000000000000 + 1 := R; omega
      | cons r' rs' =>
        have e1' : one = (l1 ++ [r]) ++ r' :: rs' := by rw [e1]; simp
        have R1 := R.1
        have R2 := R.2.1
        have ih := paired_loop n (l1 ++ [r]) r' rs' l2 q qs (r.l + 1) (found ++ [eP (pq r q c)]) (.d (.int c)) (.d (.int (min r.l q.l))) (.d (.int (pq r q c).1.a)) (.d (.int (pq r q c).2.a)) e1' e2 ⟨rfl, R.2⟩ ⟨rfl, fl2, v2, Q⟩ b1 b2 (by omega) (by omega) (by omega) (by omega) (by omega) (by simp at hn; omega) (by simp at hl ⊢; omega)
        rw [List.length_append, List.length_singleton] at ih
        obtain ⟨ps, s3', s4', s5', s6', s7', s8', h1, h2, h3⟩ := ih
        refine ⟨pq r q c :: ps, s3', s4', s5', s6', s7', s8', ?_, fin ps (by rw [show min r.l q.l = r.l by omega]; exact h2), by simp at h3 ⊢; omega⟩
        rw [h1]; simp
    · rw [if_pos (by omega), if_pos (by omega)]
      cases rs with
      | nil =>
        have R' : r.l + 1 = 1000000000000 + 1 := R
        cases qs with
        | nil =>
          refine ⟨[pq r q c], .d (.int ((l1.length + 1 : Nat) : Int)), .d (.int ((l2.length + 1 : Nat) : Int)), .d (.int c), .d (.int (min r.l q.l)), .d (.int (pq r q c).1.a), .d (.int (pq r q c).2.a), ?_, fin [] ⟨?_, ?_, by simp, by simp⟩, by simp⟩
          · cases n with
            | zero => simp at hn
            | succ n =>
              have t3 : (((l1.length + 1 : Nat) : Int)) = ((one.map eR).length : Int) := by rw [e1]; simp
              rw [gWhile_succ]
              generalize one.map eR = L1 at *
              generalize two.map eR = L2 at *
              have t4 : decide (((l1.length + 1 : Nat) : Int) < (L1.length : Int)) = false := decide_eq_false (by omega)
              generalize ((l1.length + 1 : Nat) : Int) = k1 at *
              simp [t4]
          · show min r.l q.l + 1 = _; omega
          · show min r.l q.l + 1 = _; omega
        | cons q' qs' => have Q1 := Q.1; have Q2 := Q.2.1; have Q3 := Q.2.2.2.le; omega
      | cons r' rs' =>
        cases qs with
        | nil => have Q' : q.l + 1 = 1000000000000 + 1 := Q; have R1 := R.1; have R2 := R.2.1; have R3 := R.2.2.2.le; omega
        | cons q' qs' =>
          have e1' : one = (l1 ++ [r]) ++ r' :: rs' := by rw [e1]; simp
          have e2' : two = (l2 ++ [q]) ++ q' :: qs' := by rw [e2]; simp
          have R1 := R.1
          have R2 := R.2.1
          have Q1 := Q.1
          have Q2 := Q.2.1
          have ih := paired_loop n (l1 ++ [r]) r' rs' (l2 ++ [q]) q' qs' (r.l + 1) (found ++ [eP (pq r q c)]) (.d (.int c)) (.d (.int (min r.l q.l))) (.d (.int (pq r q c).1.a)) (.d (.int (pq r q c).2.a)) e1' e2' ⟨rfl, R.2⟩ ⟨rfl, Q.2⟩ b1 b2 (by omega) (by omega) (by omega) (by omega) (by omega) (by simp at hn; omega) (by simp at hl ⊢; omega)
          rw [List.length_append, List.length_singleton, List.length_append, List.length_singleton] at ih
          obtain ⟨ps, s3', s4', s5', s6', s7', s8', h1, h2, h3⟩ := ih
          refine ⟨pq r q c :: ps, s3', s4', s5', s6', s7', s8', ?_, fin ps (by rw [show min r.l q.l = r.l by omega]; exact h2), by simp at h3 ⊢; omega⟩
          rw [h1]; simp
    · rw [if_neg (by omega), if_pos (by omega)]
      cases qs with
      | nil => have Q' : q.l + 1 = 1000000000000 + 1 := Q; omega
      | cons q' qs' =>
        have e2' : two = (l2 ++ [q]) ++ q' :: qs' := by rw [e2]; simp
        have Q1 := Q.1
        have Q2 := Q.2.1
        have ih := paired_loop n l1 r rs (l2 ++ [q]) q' qs' (q.l + 1) (found ++ [eP (pq r q c)]) (.d (.int c)) (.d (.int (min r.l q.l))) (.d (.int (pq r q c).1.a)) (.d (.int (pq r q c).2.a)) e1 e2' ⟨rfl, fl1, v1, R⟩ ⟨rfl, Q.2⟩ b1 b2 (by omega) (by omega) (by omega) (by omega) (by omega) (by simp at hn; omega) (by simp at hl ⊢; omega)
        rw [List.length_append, List.length_singleton] at ih
        obtain ⟨ps, s3', s4', s5', s6', s7', s8', h1, h2, h3⟩ := ih
        refine ⟨pq r q c :: ps, s3', s4', s5', s6', s7', s8', ?_, fin ps (by rw [show min r.l q.l = q.l by omega]; exact h2), by simp at h3 ⊢; omega⟩
        rw [h1]; simp
def Bv (F : Int → Int) (B : Nat) : Prop := ∀ x, 0 ≤ x → x ≤ 1000000000000 → (F x).natAbs ≤ B
theorem Ln.sm {rs : List Rw} {F : Int → Int} (h : Ln rs F) (hB : Bv F (2 ^ 80)) : ∀ r ∈ rs, Sm r := fun r hr => by
  have b := h.bd hB r hr
  exact ⟨b.1, by omega, Nat.le_trans b.2.2.2.2 (by decide)⟩
theorem Ln.ne {rs : List Rw} {F : Int → Int} (h : Ln rs F) : ∃ r t, rs = r :: t := by
  cases rs with
  | nil => have := h.r; have h' : (0 : Int) = 1000000000000 + 1 := this; omega
  | cons r t => exact ⟨r, t, rfl⟩
theorem paired_ {F G : Int → Int} {one two : List Rw} (h1 : Ln one F) (h2 : Ln two G) (b1 : Bv F (2 ^ 80)) (b2 : Bv G (2 ^ 80)) (hl : one.length + two.length < 1000000) :
    ∃ ps, F_paired [.d (.list (one.map eR)), .d (.list (two.map eR))] [] = .ok (.own (.lst (ps.map eP))) [] ∧ PR ps 0 F G ∧ ps.length + 1 ≤ one.length + two.length := by
  obtain ⟨r, rs, e1⟩ := h1.ne
  obtain ⟨q, qs, e2⟩ := h2.ne
  have R := h1.r
  have Q := h2.r
  rw [e1] at R
  rw [e2] at Q
  have rf := R.1
  have qf := Q.1
  have rl := R.2.1
  have ql := Q.2.1
  have l1 : one.length = rs.length + 1 := by rw [e1]; rfl
  have l2 : two.length = qs.length + 1 := by rw [e2]; rfl
  obtain ⟨ps, s3, s4, s5, s6, s7, s8, k1, k2, k3⟩ := paired_loop (F := F) (G := G) (one := one) (two := two) 10000000 [] r rs [] q qs 0 [] .no .no .no .no e1 e2 (by rw [rf]; exact R) (by rw [qf]; exact Q) (h1.sm b1) (h2.sm b2) (by omega) (by omega) (by omega) (by omega) (by omega) (by omega) (by simp; omega)
  refine ⟨ps, ?_, k2, by omega⟩
  have b1 : sNew 2 (eLst aNil) [.d (.list (one.map eR)), .d (.list (two.map eR)), .no, .no, .no, .no, .no, .no, .no] [] = .nx [.d (.list (one.map eR)), .d (.list (two.map eR)), .cel 0, .no, .no, .no, .no, .no, .no] [.lst []] := by simp
  have b2 : sSet 3 (eC (.int (0))) [.d (.list (one.map eR)), .d (.list (two.map eR)), .cel 0, .no, .no, .no, .no, .no, .no] [.lst []] = .nx [.d (.list (one.map eR)), .d (.list (two.map eR)), .cel 0, .d (.int 0), .no, .no, .no, .no, .no] [.lst []] := by simp
  have b3 : sSet 4 (eC (.int (0))) [.d (.list (one.map eR)), .d (.list (two.map eR)), .cel 0, .d (.int 0), .no, .no, .no, .no, .no] [.lst []] = .nx [.d (.list (one.map eR)), .d (.list (two.map eR)), .cel 0, .d (.int 0), .d (.int 0), .no, .no, .no, .no] [.lst []] := by simp
  have b5 : sRet (eRv (eV 2)) [.d (.list (one.map eR)), .d (.list (two.map eR)), .cel 0, s3, s4, s5, s6, s7, s8] [.lst (ps.map eP)] = .rt (.cel 0) [.lst (ps.map eP)] := by simp
  have b6 := gSeq_of b1 (gSeq_of b2 (gSeq_of b3 (gSeq_of (g := sWhile (fun _ _ => 10000000) _ _) k1 b5)))
  unfold F_paired
  rw [runG_]
  exact (congrArg (fin 0) b6).trans (by simp [fin_cel])
theorem pr_rep {F G H : Int → Int} (g : Rw × Rw → Rw) (hf : ∀ p, (g p).f = p.1.f) (hl : ∀ p, (g p).l = p.1.l) (hv : ∀ (p : Rw × Rw) (x : Int), p.1.f = p.2.f → F x = p.1.a + p.1.s * (x - p.1.f) → G x = p.2.a + p.2.s * (x - p.2.f) → H x = (g p).a + (g p).s * (x - p.1.f)) : ∀ {ps : List (Rw × Rw)} {x0 : Int}, PR ps x0 F G → Rep (ps.map g) x0 1000000000000 H
  | [], _, h => h.one
  | p :: ps, x0, h => by
    obtain ⟨a1, a2, a3, a4⟩ := h.one
    obtain ⟨b1, b2, b3, b4⟩ := h.two
    have sm := h.same p (by simp)
    refine ⟨by rw [hf]; exact a1, by rw [hf, hl]; exact a2, fun x c d => ?_, ?_⟩
    · rw [hf] at c; rw [hl] at d; rw [hf]
      have c' : p.1.f ≤ x := c
      have d' : x ≤ p.1.l := d
      have s1 := sm.1
      have s2 := sm.2
      exact hv p x sm.1 (a3 x c d) (b3 x (by show p.2.f ≤ x; omega) (by show x ≤ p.2.l; omega))
    · rw [hl]; exact pr_rep g hf hl hv ⟨a4, by rw [sm.2]; exact b4, fun z hz => h.same z (by simp [hz]), fun z hz => h.sl z (by simp [hz])⟩
theorem PR.bd {F G : Int → Int} {ps : List (Rw × Rw)} (h : PR ps 0 F G) : ∀ p ∈ ps, 0 ≤ p.1.f ∧ p.1.f ≤ p.1.l ∧ p.1.l ≤ 1000000000000 ∧ (∀ x, p.1.f ≤ x → x ≤ p.1.l → F x = p.1.a + p.1.s * (x - p.1.f)) ∧ (∀ x, p.2.f ≤ x → x ≤ p.2.l → G x = p.2.a + p.2.s * (x - p.2.f)) := fun p hp => by
  obtain ⟨a, b, c, d⟩ := h.one.mem p.1 (List.mem_map.2 ⟨p, hp, rfl⟩)
  obtain ⟨a', b', c', d'⟩ := h.two.mem p.2 (List.mem_map.2 ⟨p, hp, rfl⟩)
  exact ⟨a, b, c, d, d'⟩
theorem added_ {F G : Int → Int} {one two : List Rw} {sg : Int} (hs : sg.natAbs ≤ 1) (h1 : Ln one F) (h2 : Ln two G) (b1 : Bv F (2 ^ 80)) (b2 : Bv G (2 ^ 80)) (hl : one.length + two.length < 1000000) :
    ∃ rs, F_added [.d (.list (one.map eR)), .d (.list (two.map eR)), .d (.int sg)] [] = .ok (.own (.lst (rs.map eR))) [] ∧ Ln rs (fun x => F x + sg * G x) ∧ rs.length + 1 ≤ one.length + two.length := by
  obtain ⟨ps, p1, p2, p3⟩ := paired_ h1 h2 b1 b2 hl
  let g : Rw × Rw → Rw := fun p => ⟨p.1.f, p.1.l, p.1.s + sg * p.2.s, p.1.a + sg * p.2.a⟩
  have hr : Rep (ps.map g) 0 1000000000000 (fun x => F x + sg * G x) := pr_rep g (fun _ => rfl) (fun _ => rfl) (fun p x e1 e2 e3 => by
    show F x + sg * G x = p.1.a + sg * p.2.a + (p.1.s + sg * p.2.s) * (x - p.1.f)
    rw [e2, e3, e1, Int.mul_add, Int.add_mul, Int.mul_assoc]
    omega) p2
  have ab : ∀ p ∈ ps, p.1.a.natAbs ≤ 2 ^ 80 ∧ p.2.a.natAbs ≤ 2 ^ 80 := fun p hp => by
    obtain ⟨x1, x2, x3, x4, x5⟩ := p2.bd p hp
    obtain ⟨sm1, sm2⟩ := p2.same p hp
    have y1 := x4 p.1.f (by omega) (by omega)
    have y2 := x5 p.2.f (by omega) (by omega)
    rw [Int.sub_self, Int.mul_zero, Int.add_zero] at y1 y2
    rw [← y1, ← y2]
    exact ⟨b1 _ x1 (by omega), b2 _ (by omega) (by omega)⟩
  have mu : ∀ p ∈ ps, mulD (.int sg) (.int p.2.s) = some (.int (sg * p.2.s)) ∧ mulD (.int sg) (.int p.2.a) = some (.int (sg * p.2.a)) := fun p hp =>
    ⟨mulB (Nat.lt_of_le_of_lt hs (by decide)) (Nat.lt_of_le_of_lt (p2.sl p hp).2 (by decide)), mulB (Nat.lt_of_le_of_lt hs (by decide)) (Nat.lt_of_le_of_lt (ab p hp).2 (by decide))⟩
  have hsl : ∀ q ∈ ps.map g, q.s.natAbs < 2 ^ 200 := fun q hq => by
    obtain ⟨p, hp, rfl⟩ := List.mem_map.1 hq
    have s := p2.sl p hp
    have m : (sg * p.2.s).natAbs ≤ 2 ^ 100 := by
      rw [Int.natAbs_mul]
      exact Nat.le_trans (Nat.mul_le_mul hs s.2) (by rw [Nat.one_mul]; exact Nat.le_refl _)
    show (p.1.s + sg * p.2.s).natAbs < 2 ^ 200
    exact Nat.lt_of_le_of_lt (Nat.le_trans (Int.natAbs_add_le _ _) (Nat.add_le_add s.1 m)) (by decide)
  have lc := lcAll (cs := []) (tg := gtT (gtsCons (gtN 4) (gtsCons (gtN 5) (gtsCons (gtN 6) (gtsCons (gtN 7) (gtsCons (gtN 8) (gtsCons (gtN 9) gtsNil))))))) (f := eTup (aCons (eV 4) (aCons (eV 5) (aCons (eBin addD (eV 6) (eBin mulD (eV 2) (eV 8))) (aCons (eBin addD (eV 7) (eBin mulD (eV 2) (eV 9))) aNil))))) (ρ := [.d (.list (one.map eR)), .d (.list (two.map eR)), .d (.int sg), .no, .no, .no, .no, .no, .no, .no]) eP (fun p => eR (g p)) ps (fun p hp => by
    obtain ⟨m1, m2⟩ := mu p hp
    refine ⟨[.d (.list (one.map eR)), .d (.list (two.map eR)), .d (.int sg), .no, .d (.int p.1.f), .d (.int p.1.l), .d (.int p.1.s), .d (.int p.1.a), .d (.int p.2.s), .d (.int p.2.a)], rfl, ?_⟩
    simp [m1, m2, -mulD_int]; rfl) (by omega)
  have j := joined_ hr hsl (by rw [List.length_map]; omega)
  rw [List.map_map] at j
  have j' : F_joined [.d (.list (ps.map fun r => eR (g r)))] [] = .ok (.own (.lst ((jn (ps.map g)).map eR))) [] := j
  refine ⟨jn (ps.map g), ?_, jn_ln hr, by have := jn_len (ps.map g); rw [List.length_map] at this; omega⟩
  unfold F_added B_added
  rw [runG_]
  simp [p1, lc, j']
theorem lin0 {u v n t : Int} (h0 : 0 ≤ u) (h1 : 0 ≤ u + v * n) (t0 : 0 ≤ t) (tn : t ≤ n) : 0 ≤ u + v * t := by
  by_cases c : 0 ≤ v
  · have := Int.mul_nonneg c t0; omega
  · have : v * n ≤ v * t := Int.mul_le_mul_of_nonpos_left (by omega) tn
    omega
/-- straight lines that keep their order at both ends keep it between -/
theorem lin_le {a b c d n t : Int} (h0 : b ≤ d) (h1 : b + a * n ≤ d + c * n) (t0 : 0 ≤ t) (tn : t ≤ n) : b + a * t ≤ d + c * t := by
  have := lin0 (u := d - b) (v := c - a) (n := n) (t := t) (by omega) (by rw [Int.sub_mul]; omega) t0 tn
  rw [Int.sub_mul] at this
  omega
theorem lin_lt {a b c d n t : Int} (h0 : b < d) (h1 : b + a * n < d + c * n) (t0 : 0 ≤ t) (tn : t ≤ n) : b + a * t < d + c * t := by
  have := lin_le (a := a) (b := b + 1) (c := c) (d := d) (n := n) (t := t) (by omega) (by omega) t0 tn
  omega
/-- the place at which the upper line falls behind -/
theorem meet {u v n : Int} (h0 : 0 ≤ u) (h1 : u < v * n) (hn : 0 ≤ n) : 0 < v ∧ 0 ≤ u / v ∧ u / v < n ∧ (∀ t, 0 ≤ t → t ≤ u / v → v * t ≤ u) ∧ ∀ t, u / v + 1 ≤ t → u < v * t := by
  have hv : 0 < v := by
    by_cases c : 0 < v
    · exact c
    · have := Int.mul_le_mul_of_nonneg_right (show v ≤ 0 by omega) hn
      rw [Int.zero_mul] at this
      omega
  refine ⟨hv, Int.ediv_nonneg h0 (by omega), Int.ediv_lt_of_lt_mul hv (by rw [Int.mul_comm]; exact h1), fun t _ ht => ?_, fun t ht => ?_⟩
  · have := (Int.le_ediv_iff_mul_le hv).1 ht
    rw [Int.mul_comm]; exact this
  · have := (Int.ediv_lt_iff_lt_mul hv).1 (show u / v < t by omega)
    rw [Int.mul_comm]; exact this
def lrows (r q : Rw) : List Rw := if r.a ≤ q.a then (if r.a + r.s * (r.l - r.f) ≤ q.a + q.s * (r.l - r.f) then [r] else [⟨r.f, r.f + (q.a - r.a) / (r.s - q.s), r.s, r.a⟩, ⟨r.f + (q.a - r.a) / (r.s - q.s) + 1, r.l, q.s, q.a + q.s * ((q.a - r.a) / (r.s - q.s) + 1)⟩])
  else (if r.a + r.s * (r.l - r.f) ≤ q.a + q.s * (r.l - r.f) then [⟨r.f, r.f + (r.a - q.a - 1) / (q.s - r.s), q.s, q.a⟩, ⟨r.f + (r.a - q.a - 1) / (q.s - r.s) + 1, r.l, r.s, r.a + r.s * ((r.a - q.a - 1) / (q.s - r.s) + 1)⟩] else [⟨r.f, r.l, q.s, q.a⟩])
theorem lrows_len (r q : Rw) : (lrows r q).length ≤ 2 := by
  unfold lrows; split <;> split <;> simp
def mn (F G : Int → Int) (x : Int) : Int := if F x ≤ G x then F x else G x
theorem lrows_rep {F G : Int → Int} {r q : Rw} (e1 : r.f = q.f) (e2 : r.l = q.l) (hl : r.f ≤ r.l) (hF : ∀ x, r.f ≤ x → x ≤ r.l → F x = r.a + r.s * (x - r.f)) (hG : ∀ x, q.f ≤ x → x ≤ q.l → G x = q.a + q.s * (x - q.f)) : Rep (lrows r q) r.f r.l (mn F G) := by
  have hG' : ∀ x, r.f ≤ x → x ≤ r.l → G x = q.a + q.s * (x - r.f) := fun x a b => by
    rw [e1]; exact hG x (by omega) (by omega)
  have tl : ∀ (k s a x : Int), a + s * (k + 1) + s * (x - (r.f + k + 1)) = a + s * (x - r.f) := fun k s a x => by
    rw [Int.add_assoc, ← Int.mul_add]
    congr 2
    omega
  have nl : 0 ≤ r.l - r.f := by omega
  unfold lrows
  by_cases c1 : r.a ≤ q.a
  · rw [if_pos c1]
    by_cases c2 : r.a + r.s * (r.l - r.f) ≤ q.a + q.s * (r.l - r.f)
    · rw [if_pos c2]
      refine rep_one.2 ⟨rfl, hl, rfl, fun x a b => ?_⟩
      have := lin_le c1 c2 (t := x - r.f) (by omega) (by omega)
      unfold mn
      rw [hF x a b, hG' x a b, if_pos this]
    · rw [if_neg c2]
      obtain ⟨m1, m2, m3, m4, m5⟩ := meet (u := q.a - r.a) (v := r.s - q.s) (n := r.l - r.f) (by omega) (by rw [Int.sub_mul]; omega) nl
      generalize (q.a - r.a) / (r.s - q.s) = k at *
      refine ⟨rfl, by show r.f ≤ r.f + k; omega, fun x a b => ?_, rfl, by show r.f + k + 1 ≤ r.l; omega, fun x a b => ?_, rfl⟩
      · have a' : r.f ≤ x := a
        have b' : x ≤ r.f + k := b
        have := m4 (x - r.f) (by omega) (by omega)
        rw [Int.sub_mul] at this
        show mn F G x = r.a + r.s * (x - r.f)
        unfold mn
        rw [hF x a' (by omega), hG' x a' (by omega), if_pos (by omega)]
      · have a' : r.f + k + 1 ≤ x := a
        have b' : x ≤ r.l := b
        have := m5 (x - r.f) (by omega)
        rw [Int.sub_mul] at this
        show mn F G x = q.a + q.s * (k + 1) + q.s * (x - (r.f + k + 1))
        rw [tl]
        unfold mn
        rw [hF x (by omega) b', hG' x (by omega) b', if_neg (by omega)]
  · rw [if_neg c1]
    by_cases c2 : r.a + r.s * (r.l - r.f) ≤ q.a + q.s * (r.l - r.f)
    · rw [if_pos c2]
      obtain ⟨m1, m2, m3, m4, m5⟩ := meet (u := r.a - q.a - 1) (v := q.s - r.s) (n := r.l - r.f) (by omega) (by rw [Int.sub_mul]; omega) nl
      generalize (r.a - q.a - 1) / (q.s - r.s) = k at *
      refine ⟨rfl, by show r.f ≤ r.f + k; omega, fun x a b => ?_, rfl, by show r.f + k + 1 ≤ r.l; omega, fun x a b => ?_, rfl⟩
      · have a' : r.f ≤ x := a
        have b' : x ≤ r.f + k := b
        have := m4 (x - r.f) (by omega) (by omega)
        rw [Int.sub_mul] at this
        show mn F G x = q.a + q.s * (x - r.f)
        unfold mn
        rw [hF x a' (by omega), hG' x a' (by omega), if_neg (by omega)]
      · have a' : r.f + k + 1 ≤ x := a
        have b' : x ≤ r.l := b
        have := m5 (x - r.f) (by omega)
        rw [Int.sub_mul] at this
        show mn F G x = r.a + r.s * (k + 1) + r.s * (x - (r.f + k + 1))
        rw [tl]
        unfold mn
        rw [hF x (by omega) b', hG' x (by omega) b', if_pos (by omega)]
    · rw [if_neg c2]
      refine rep_one.2 ⟨rfl, hl, rfl, fun x a b => ?_⟩
      have a' : r.f ≤ x := a
      have b' : x ≤ r.l := b
      have := lin_lt (a := q.s) (b := q.a) (c := r.s) (d := r.a) (n := r.l - r.f) (t := x - r.f) (by omega) (by omega) (by omega) (by omega)
      show mn F G x = q.a + q.s * (x - r.f)
      unfold mn
      rw [hF x a' b', hG' x a' b', if_neg (by omega)]
theorem lrows_sl {r q : Rw} {B : Nat} (h1 : r.s.natAbs ≤ B) (h2 : q.s.natAbs ≤ B) : ∀ z ∈ lrows r q, z.s.natAbs ≤ B := fun z hz => by
  unfold lrows at hz
  split at hz <;> split at hz <;> simp at hz
  · subst hz; exact h1
  · rcases hz with rfl | rfl
    · exact h1
    · exact h2
  · rcases hz with rfl | rfl
    · exact h2
    · exact h1
  · subst hz; exact h2
theorem lesser_step (v w : S) (found : List D) {r q : Rw} (s9 s10 s11 s12 : S) (hl : found.length < 1000000) (h0 : 0 ≤ r.f) (h1 : r.f ≤ r.l) (h2 : r.l ≤ 1000000000000) (hs : r.s.natAbs ≤ 2 ^ 100) (hs2 : q.s.natAbs ≤ 2 ^ 100) (ha : r.a.natAbs ≤ 2 ^ 80) (ha2 : q.a.natAbs ≤ 2 ^ 80) :
    ∃ t9 t10 t11 t12, (gSeq (sSet 9 (eCmp leD (eV 6) (eV 8)))
      (gSeq (sSet 10 (eCmp leD (eBin addD (eV 6) (eBin mulD (eV 5) (eBin subD (eV 4) (eV 3)))) (eBin addD (eV 8) (eBin mulD (eV 7) (eBin subD (eV 4) (eV 3))))))
      (sIf (tAndM (tT (eV 9)) (tT (eV 10))) (sExp (eMt appG (eV 2) (aCons (eTup (aCons (eV 3) (aCons (eV 4) (aCons (eV 5) (aCons (eV 6) aNil))))) aNil))) (sIf (tAndM (tNotM (tT (eV 9))) (tNotM (tT (eV 10)))) (sExp (eMt appG (eV 2) (aCons (eTup (aCons (eV 3) (aCons (eV 4) (aCons (eV 7) (aCons (eV 8) aNil))))) aNil))) (gSeq (sSet 11 (eIf (tT (eV 9)) (eBin fdivD (eCd absG (aCons (eBin subD (eV 8) (eV 6)) aNil)) (eCd absG (aCons (eBin subD (eV 5) (eV 7)) aNil))) (eBin fdivD (eBin subD (eCd absG (aCons (eBin subD (eV 8) (eV 6)) aNil)) (eC (.int (1)))) (eCd absG (aCons (eBin subD (eV 5) (eV 7)) aNil)))))
          (gSeq (sSet 12 (eBin addD (eV 3) (eV 11)))
          (sIf (tT (eV 9)) (gSeq (sExp (eMt appG (eV 2) (aCons (eTup (aCons (eV 3) (aCons (eV 12) (aCons (eV 5) (aCons (eV 6) aNil))))) aNil)))
            (sExp (eMt appG (eV 2) (aCons (eTup (aCons (eBin addD (eV 12) (eC (.int (1)))) (aCons (eV 4) (aCons (eV 7) (aCons (eBin addD (eV 8) (eBin mulD (eV 7) (eBin addD (eV 11) (eC (.int (1)))))) aNil))))) aNil)))) (gSeq (sExp (eMt appG (eV 2) (aCons (eTup (aCons (eV 3) (aCons (eV 12) (aCons (eV 7) (aCons (eV 8) aNil))))) aNil)))
            (sExp (eMt appG (eV 2) (aCons (eTup (aCons (eBin addD (eV 12) (eC (.int (1)))) (aCons (eV 4) (aCons (eV 5) (aCons (eBin addD (eV 6) (eBin mulD (eV 5) (eBin addD (eV 11) (eC (.int (1)))))) aNil))))) aNil))))))))))) [v, w, .cel 0, .d (.int r.f), .d (.int r.l), .d (.int r.s), .d (.int r.a), .d (.int q.s), .d (.int q.a), s9, s10, s11, s12] [.lst found] =
      .nx [v, w, .cel 0, .d (.int r.f), .d (.int r.l), .d (.int r.s), .d (.int r.a), .d (.int q.s), .d (.int q.a), t9, t10, t11, t12] [.lst (found ++ (lrows r q).map eR)] := by
  have m1 : mulD (.int r.s) (.int (r.l - r.f)) = some (.int (r.s * (r.l - r.f))) := mulB (Nat.lt_of_le_of_lt hs (by decide)) (Nat.lt_of_le_of_lt (m := 1000000000000) (by omega) (by decide))
  have m2 : mulD (.int q.s) (.int (r.l - r.f)) = some (.int (q.s * (r.l - r.f))) := mulB (Nat.lt_of_le_of_lt hs2 (by decide)) (Nat.lt_of_le_of_lt (m := 1000000000000) (by omega) (by decide))
  have z1 : found.length ≤ sizeLine := size_ok (by omega)
  have z2 : found.length < sizeLine := size_lt (by omega)
  have z3 : found.length + 1 ≤ sizeLine := size_ok (by omega)
  have z4 : found.length + 1 < sizeLine := size_lt (by omega)
  have nl : 0 ≤ r.l - r.f := by omega
  have nn : ∀ k : Int, 0 ≤ k → k < r.l - r.f → (k + 1).natAbs < 2 ^ 200 := fun k a b => Nat.lt_of_le_of_lt (m := 1000000000000) (by omega) (by decide)
  unfold lrows
  by_cases c1 : r.a ≤ q.a
  · rw [if_pos c1]
    by_cases c2 : r.a + r.s * (r.l - r.f) ≤ q.a + q.s * (r.l - r.f)
    · rw [if_pos c2]
      refine ⟨.d (.bool true), .d (.bool true), s11, s12, ?_⟩
      simp [c1, c2, m1, m2, z1, z2, eR, -mulD_int]
    · rw [if_neg c2]
      obtain ⟨k1, k2, k3, k4, k5⟩ := meet (u := q.a - r.a) (v := r.s - q.s) (n := r.l - r.f) (by omega) (by rw [Int.sub_mul]; omega) nl
      have c3 : ¬ q.a - r.a < 0 := by omega
      have c4 : ¬ r.s - q.s < 0 := by omega
      have d1 : fdivD (.int (q.a - r.a)) (.int (r.s - q.s)) = some (.int ((q.a - r.a) / (r.s - q.s))) := fdivD_lt k1 (Nat.lt_of_le_of_lt (m := 2 ^ 101) (by omega) (by decide))
      have n1 := nn _ k2 k3
      have m3 : mulD (.int q.s) (.int ((q.a - r.a) / (r.s - q.s) + 1)) = some (.int (q.s * ((q.a - r.a) / (r.s - q.s) + 1))) := mulB (Nat.lt_of_le_of_lt hs2 (by decide)) n1
      refine ⟨.d (.bool true), .d (.bool false), .d (.int ((q.a - r.a) / (r.s - q.s))), .d (.int (r.f + (q.a - r.a) / (r.s - q.s))), ?_⟩
      simp [c1, c2, c3, c4, d1, m1, m2, m3, z1, z2, z3, z4, eR, -mulD_int, -fdivD_int]
  · rw [if_neg c1]
    by_cases c2 : r.a + r.s * (r.l - r.f) ≤ q.a + q.s * (r.l - r.f)
    · rw [if_pos c2]
      obtain ⟨k1, k2, k3, k4, k5⟩ := meet (u := r.a - q.a - 1) (v := q.s - r.s) (n := r.l - r.f) (by omega) (by rw [Int.sub_mul]; omega) nl
      have c3 : q.a - r.a < 0 := by omega
      have c4 : r.s - q.s < 0 := by omega
      have d0 : -(q.a - r.a) - 1 = r.a - q.a - 1 := by omega
      have d00 : -(r.s - q.s) = q.s - r.s := by omega
      have d1 : fdivD (.int (r.a - q.a - 1)) (.int (q.s - r.s)) = some (.int ((r.a - q.a - 1) / (q.s - r.s))) := fdivD_lt k1 (Nat.lt_of_le_of_lt (m := 2 ^ 101) (by omega) (by decide))
      have n1 := nn _ k2 k3
      have m3 : mulD (.int r.s) (.int ((r.a - q.a - 1) / (q.s - r.s) + 1)) = some (.int (r.s * ((r.a - q.a - 1) / (q.s - r.s) + 1))) := mulB (Nat.lt_of_le_of_lt hs (by decide)) n1
      refine ⟨.d (.bool false), .d (.bool true), .d (.int ((r.a - q.a - 1) / (q.s - r.s))), .d (.int (r.f + (r.a - q.a - 1) / (q.s - r.s))), ?_⟩
      have g1 : absG [.int (q.a - r.a)] = some (.int (r.a - q.a)) := by rw [absG_, if_pos c3, Int.neg_sub]
      have g2 : absG [.int (r.s - q.s)] = some (.int (q.s - r.s)) := by rw [absG_, if_pos c4, Int.neg_sub]
      simp [c1, c2, g1, g2, d1, m1, m2, m3, z1, z2, z3, z4, eR, -mulD_int, -fdivD_int, -absG_]
    · rw [if_neg c2]
      refine ⟨.d (.bool false), .d (.bool false), s11, s12, ?_⟩
      simp [c1, c2, m1, m2, z1, z2, eR, -mulD_int]
structure Wf (p : Rw × Rw) : Prop where
  f0 : 0 ≤ p.1.f
  fl : p.1.f ≤ p.1.l
  lm : p.1.l ≤ 1000000000000
  ef : p.1.f = p.2.f
  el : p.1.l = p.2.l
  s1 : p.1.s.natAbs ≤ 2 ^ 100
  s2 : p.2.s.natAbs ≤ 2 ^ 100
  a1 : p.1.a.natAbs ≤ 2 ^ 80
  a2 : p.2.a.natAbs ≤ 2 ^ 80
theorem PR.wf {F G : Int → Int} {ps : List (Rw × Rw)} (h : PR ps 0 F G) (b1 : Bv F (2 ^ 80)) (b2 : Bv G (2 ^ 80)) : ∀ p ∈ ps, Wf p := fun p hp => by
  obtain ⟨x1, x2, x3, x4, x5⟩ := h.bd p hp
  obtain ⟨sm1, sm2⟩ := h.same p hp
  have y1 := x4 p.1.f (by omega) (by omega)
  have y2 := x5 p.2.f (by omega) (by omega)
  rw [Int.sub_self, Int.mul_zero, Int.add_zero] at y1 y2
  exact ⟨x1, x2, x3, sm1, sm2, (h.sl p hp).1, (h.sl p hp).2, by rw [← y1]; exact b1 _ x1 (by omega), by rw [← y2]; exact b2 _ (by omega) (by omega)⟩
def lsR (ps : List (Rw × Rw)) : List Rw := (ps.map fun p => lrows p.1 p.2).flatten
theorem lsR_cons (p : Rw × Rw) (ps : List (Rw × Rw)) : lsR (p :: ps) = lrows p.1 p.2 ++ lsR ps := rfl
theorem lsR_len (ps : List (Rw × Rw)) : (lsR ps).length ≤ 2 * ps.length := by
  induction ps with
  | nil => exact Nat.le_refl _
  | cons p ps ih => rw [lsR_cons, List.length_append, List.length_cons]; have := lrows_len p.1 p.2; omega
theorem lsR_rep {F G : Int → Int} : ∀ {ps : List (Rw × Rw)} {c : Int}, PR ps c F G → Rep (lsR ps) c 1000000000000 (mn F G)
  | [], c, h => h.one
  | p :: ps, c, h => by
    obtain ⟨a1, a2, a3, a4⟩ := h.one
    obtain ⟨b1, b2, b3, b4⟩ := h.two
    obtain ⟨sm1, sm2⟩ := h.same p (by simp)
    have a1' : p.1.f = c := a1
    rw [lsR_cons]
    refine rep_app.2 ⟨p.1.l, ?_, ?_⟩
    · rw [← a1']
      exact lrows_rep sm1 sm2 a2 a3 b3
    · exact lsR_rep ⟨a4, by rw [sm2]; exact b4, fun z hz => h.same z (by simp [hz]), fun z hz => h.sl z (by simp [hz])⟩
theorem lesser_loop (v w : S) : ∀ (ps : List (Rw × Rw)) (found : List D) (s3 s4 s5 s6 s7 s8 s9 s10 s11 s12 : S), (∀ p ∈ ps, Wf p) → found.length + 2 * ps.length < 1000000 →
    ∃ t3 t4 t5 t6 t7 t8 t9 t10 t11 t12, gFor (gtT (gtsCons (gtN 3) (gtsCons (gtN 4) (gtsCons (gtN 5) (gtsCons (gtN 6) (gtsCons (gtN 7) (gtsCons (gtN 8) gtsNil))))))) (gSeq (sSet 9 (eCmp leD (eV 6) (eV 8)))
      (gSeq (sSet 10 (eCmp leD (eBin addD (eV 6) (eBin mulD (eV 5) (eBin subD (eV 4) (eV 3)))) (eBin addD (eV 8) (eBin mulD (eV 7) (eBin subD (eV 4) (eV 3))))))
      (sIf (tAndM (tT (eV 9)) (tT (eV 10))) (sExp (eMt appG (eV 2) (aCons (eTup (aCons (eV 3) (aCons (eV 4) (aCons (eV 5) (aCons (eV 6) aNil))))) aNil))) (sIf (tAndM (tNotM (tT (eV 9))) (tNotM (tT (eV 10)))) (sExp (eMt appG (eV 2) (aCons (eTup (aCons (eV 3) (aCons (eV 4) (aCons (eV 7) (aCons (eV 8) aNil))))) aNil))) (gSeq (sSet 11 (eIf (tT (eV 9)) (eBin fdivD (eCd absG (aCons (eBin subD (eV 8) (eV 6)) aNil)) (eCd absG (aCons (eBin subD (eV 5) (eV 7)) aNil))) (eBin fdivD (eBin subD (eCd absG (aCons (eBin subD (eV 8) (eV 6)) aNil)) (eC (.int (1)))) (eCd absG (aCons (eBin subD (eV 5) (eV 7)) aNil)))))
          (gSeq (sSet 12 (eBin addD (eV 3) (eV 11)))
          (sIf (tT (eV 9)) (gSeq (sExp (eMt appG (eV 2) (aCons (eTup (aCons (eV 3) (aCons (eV 12) (aCons (eV 5) (aCons (eV 6) aNil))))) aNil)))
            (sExp (eMt appG (eV 2) (aCons (eTup (aCons (eBin addD (eV 12) (eC (.int (1)))) (aCons (eV 4) (aCons (eV 7) (aCons (eBin addD (eV 8) (eBin mulD (eV 7) (eBin addD (eV 11) (eC (.int (1)))))) aNil))))) aNil)))) (gSeq (sExp (eMt appG (eV 2) (aCons (eTup (aCons (eV 3) (aCons (eV 12) (aCons (eV 7) (aCons (eV 8) aNil))))) aNil)))
            (sExp (eMt appG (eV 2) (aCons (eTup (aCons (eBin addD (eV 12) (eC (.int (1)))) (aCons (eV 4) (aCons (eV 5) (aCons (eBin addD (eV 6) (eBin mulD (eV 5) (eBin addD (eV 11) (eC (.int (1)))))) aNil))))) aNil))))))))))) (ps.map eP) [v, w, .cel 0, s3, s4, s5, s6, s7, s8, s9, s10, s11, s12] [.lst found] =
      .nx [v, w, .cel 0, t3, t4, t5, t6, t7, t8, t9, t10, t11, t12] [.lst (found ++ (lsR ps).map eR)]
  | [], found, s3, s4, s5, s6, s7, s8, s9, s10, s11, s12, _, _ => ⟨s3, s4, s5, s6, s7, s8, s9, s10, s11, s12, by simp [lsR]⟩
  | p :: ps, found, s3, s4, s5, s6, s7, s8, s9, s10, s11, s12, h, hl => by
    have wf := h p (by simp)
    rw [List.length_cons] at hl
    obtain ⟨t9, t10, t11, t12, e1⟩ := lesser_step v w found (r := p.1) (q := p.2) s9 s10 s11 s12 (by omega) wf.f0 wf.fl wf.lm wf.s1 wf.s2 wf.a1 wf.a2
    have ll := lrows_len p.1 p.2
    obtain ⟨u3, u4, u5, u6, u7, u8, u9, u10, u11, u12, e2⟩ := lesser_loop v w ps (found ++ (lrows p.1 p.2).map eR) (.d (.int p.1.f)) (.d (.int p.1.l)) (.d (.int p.1.s)) (.d (.int p.1.a)) (.d (.int p.2.s)) (.d (.int p.2.a)) t9 t10 t11 t12 (fun z hz => h z (by simp [hz])) (by rw [List.length_append, List.length_map]; omega)
    refine ⟨u3, u4, u5, u6, u7, u8, u9, u10, u11, u12, ?_⟩
    rw [List.map_cons, gFor_cons, lsR_cons, List.map_append, ← List.append_assoc]
    simp only [eP, gtT_, gtsCons_, gtN_, gtsNil_, Option.bind_some, List.set_cons_succ, List.set_cons_zero]
    rw [e1]
    exact e2
theorem mn_Bv {F G : Int → Int} {B : Nat} (h1 : Bv F B) (h2 : Bv G B) : Bv (mn F G) B := fun x a b => by
  unfold mn; split
  · exact h1 x a b
  · exact h2 x a b
theorem lesser_ {F G : Int → Int} {one two : List Rw} (h1 : Ln one F) (h2 : Ln two G) (b1 : Bv F (2 ^ 80)) (b2 : Bv G (2 ^ 80)) (hl : one.length + two.length < 400000) :
    ∃ rs, F_lesser [.d (.list (one.map eR)), .d (.list (two.map eR))] [] = .ok (.own (.lst (rs.map eR))) [] ∧ Ln rs (mn F G) ∧ rs.length + 2 ≤ 2 * (one.length + two.length) := by
  obtain ⟨ps, p1, p2, p3⟩ := paired_ h1 h2 b1 b2 (by omega)
  have wf := p2.wf b1 b2
  have hr := lsR_rep p2
  have hsl : ∀ q ∈ lsR ps, q.s.natAbs < 2 ^ 200 := fun q hq => by
    obtain ⟨l, hl, hq⟩ := List.mem_flatten.1 hq
    obtain ⟨p, hp, rfl⟩ := List.mem_map.1 hl
    exact Nat.lt_of_le_of_lt (lrows_sl (wf p hp).s1 (wf p hp).s2 q hq) (by decide)
  have ll := lsR_len ps
  have j := joined_ hr hsl (by omega)
  obtain ⟨u3, u4, u5, u6, u7, u8, u9, u10, u11, u12, e⟩ := lesser_loop (.d (.list (one.map eR))) (.d (.list (two.map eR))) ps [] .no .no .no .no .no .no .no .no .no .no wf (by rw [List.length_nil]; omega)
  refine ⟨jn (lsR ps), ?_, jn_ln hr, by have := jn_len (lsR ps); omega⟩
  have b1 : sNew 2 (eLst aNil) [.d (.list (one.map eR)), .d (.list (two.map eR)), .no, .no, .no, .no, .no, .no, .no, .no, .no, .no, .no] [] = .nx [.d (.list (one.map eR)), .d (.list (two.map eR)), .cel 0, .no, .no, .no, .no, .no, .no, .no, .no, .no, .no] [.lst []] := by simp
  have b2 := sFor_of (it := iAnyM (eFrz (eCall F_paired (aCons (eV 0) (aCons (eV 1) aNil))))) (cs := [.lst []]) (cs1 := [.lst []]) (by simp [p1]) e
  have c3 := callV_own (F := F_joined) (ss := [.cel 0]) (cs := [.lst ((lsR ps).map eR)]) (tt := [.d (.list ((lsR ps).map eR))]) (by simp) j (nlDs_all fun x hx => by obtain ⟨q, _, rfl⟩ := List.mem_map.1 hx; rfl)
  have b3 : sRet (eCallV F_joined (aCons (eV 2) aNil)) [.d (.list (one.map eR)), .d (.list (two.map eR)), .cel 0, u3, u4, u5, u6, u7, u8, u9, u10, u11, u12] [.lst ((lsR ps).map eR)] = .rt (.own (.lst ((jn (lsR ps)).map eR))) [.lst ((lsR ps).map eR)] := by
    simp [c3]
  have b4 := gSeq_of b1 (gSeq_of b2 b3)
  unfold F_lesser
  rw [runG_]
  exact (congrArg (fin 0) b4).trans (by simp)
theorem Ln.congr {rs : List Rw} {F G : Int → Int} (h : Ln rs F) (e : ∀ x, 0 ≤ x → x ≤ 1000000000000 → F x = G x) : Ln rs G := ⟨h.r.congr e, h.n⟩
def mxF (F G : Int → Int) (x : Int) : Int := if G x ≤ F x then F x else G x
theorem neg_Bv {F : Int → Int} {B : Nat} (h : Bv F B) : Bv (fun x => F x * -1) B := fun x a b => by
  have := h x a b
  show (F x * -1).natAbs ≤ B
  omega
theorem greater_ {F G : Int → Int} {one two : List Rw} (h1 : Ln one F) (h2 : Ln two G) (b1 : Bv F (2 ^ 80)) (b2 : Bv G (2 ^ 80)) (hl : one.length + two.length < 400000) :
    ∃ rs, F_greater [.d (.list (one.map eR)), .d (.list (two.map eR))] [] = .ok (.own (.lst (rs.map eR))) [] ∧ Ln rs (mxF F G) ∧ rs.length + 2 ≤ 2 * (one.length + two.length) := by
  obtain ⟨r1, e1, n1, l1⟩ := multiplied_ (k := -1) h1 b1 (Nat.le_refl _) (by decide) (by omega)
  obtain ⟨r2, e2, n2, l2⟩ := multiplied_ (k := -1) h2 b2 (Nat.le_refl _) (by decide) (by omega)
  obtain ⟨r3, e3, n3, l3⟩ := lesser_ n1 n2 (neg_Bv b1) (neg_Bv b2) (by omega)
  obtain ⟨r4, e4, n4, l4⟩ := multiplied_ (k := -1) n3 (mn_Bv (neg_Bv b1) (neg_Bv b2)) (Nat.le_refl _) (by decide) (by omega)
  refine ⟨r4, ?_, n4.congr fun x a b => ?_, by omega⟩
  · unfold F_greater B_greater
    rw [runG_]
    simp [e1, e2, e3, e4]
  · show mn _ _ x * -1 = mxF F G x
    unfold mn mxF
    dsimp only
    split <;> split <;> omega
def cutR (rs : List Rw) (a b : Int) : List Rw := (rs.filter fun r => decide (r.f ≤ b) && decide (a ≤ r.l)).map fun r => atR r (max r.f a) (min r.l b)
theorem cutR_len (rs : List Rw) (a b : Int) : (cutR rs a b).length ≤ rs.length := by
  unfold cutR; rw [List.length_map]; exact List.length_filter_le _ _
theorem cutR_cons (r : Rw) (rs : List Rw) (a b : Int) : cutR (r :: rs) a b = (if r.f ≤ b ∧ a ≤ r.l then [atR r (max r.f a) (min r.l b)] else []) ++ cutR rs a b := by
  unfold cutR
  by_cases c : r.f ≤ b ∧ a ≤ r.l
  · rw [if_pos c, List.filter_cons_of_pos (by simp [c.1, c.2])]; rfl
  · rw [if_neg c, List.filter_cons_of_neg (by simpa using c)]; rfl
theorem cut_rep {F : Int → Int} {a b x1 : Int} (hb : b ≤ x1) (hab : a ≤ b) : ∀ (rs : List Rw) (x0 : Int), Rep rs x0 x1 F → (x0 ≤ b → Rep (cutR rs a b) (max x0 a) b F) ∧ (b < x0 → cutR rs a b = [])
  | [], x0, h => by
    have h' : x0 = x1 + 1 := h
    exact ⟨fun h => by omega, fun _ => rfl⟩
  | r :: rs, x0, ⟨h1, h2, h3, h4⟩ => by
    obtain ⟨i1, i2⟩ := cut_rep hb hab rs (r.l + 1) h4
    rw [cutR_cons]
    constructor
    · intro h
      by_cases c : a ≤ r.l
      · rw [if_pos ⟨by omega, c⟩]
        refine ⟨?_, ?_, ?_, ?_⟩
        · show max r.f a = max x0 a; rw [h1]
        · show max r.f a ≤ min r.l b; omega
        · intro x e1 e2
          have e1' : max r.f a ≤ x := e1
          have e2' : x ≤ min r.l b := e2
          exact at_rep h3 (c := max r.f a) (l := min r.l b) (by omega) (by omega) x e1' e2'
        · show Rep (cutR rs a b) (min r.l b + 1) b F
          by_cases d : r.l < b
          · have := i1 (by omega)
            rw [show max (r.l + 1) a = min r.l b + 1 by omega] at this
            exact this
          · rw [i2 (by omega)]
            show min r.l b + 1 = b + 1
            omega
      · rw [if_neg fun z => c z.2]
        have := i1 (by omega)
        rw [show max (r.l + 1) a = max x0 a by omega] at this
        exact this
    · intro h
      rw [if_neg fun z => by omega, i2 (by omega)]; rfl
theorem cut_step (v : S) (a b : Int) (found : List D) {r : Rw} (t8' : S) (hl : found.length < 1000000) (ha : a.natAbs ≤ 2 ^ 60) (h : Sm r) :
    ∃ t8, (sIf (tAndM (op2 leD (eV 4) (eV 2)) (op2 geD (eV 5) (eV 1))) (gSeq (sSet 8 (eCd maxG (aCons (eV 4) (aCons (eV 1) aNil))))
        (sExp (eMt appG (eV 3) (aCons (eTup (aCons (eV 8) (aCons (eCd minG (aCons (eV 5) (aCons (eV 2) aNil))) (aCons (eV 6) (aCons (eBin addD (eV 7) (eBin mulD (eV 6) (eBin subD (eV 8) (eV 4)))) aNil))))) aNil)))) gNil) [v, .d (.int a), .d (.int b), .cel 0, .d (.int r.f), .d (.int r.l), .d (.int r.s), .d (.int r.a), t8'] [.lst found] =
      .nx [v, .d (.int a), .d (.int b), .cel 0, .d (.int r.f), .d (.int r.l), .d (.int r.s), .d (.int r.a), t8] [.lst (found ++ (if r.f ≤ b ∧ a ≤ r.l then [eR (atR r (max r.f a) (min r.l b))] else []))] := by
  have z1 : found.length ≤ sizeLine := size_ok (by omega)
  have z2 : found.length < sizeLine := size_lt (by omega)
  have m1 : maxG [.int r.f, .int a] = some (.int (max r.f a)) := by
    rw [maxG_]
    split <;> (congr 2; omega)
  have m2 : minG [.int r.l, .int b] = some (.int (min r.l b)) := by
    rw [minG_]
    split <;> (congr 2; omega)
  have m3 : mulD (.int r.s) (.int (max r.f a - r.f)) = some (.int (r.s * (max r.f a - r.f))) := mulB (Nat.lt_of_le_of_lt h.2.2 (by decide)) (Nat.lt_of_le_of_lt (m := 2 ^ 61) (by have := h.1; have := h.2.1; omega) (by decide))
  by_cases c1 : r.f ≤ b
  · by_cases c2 : a ≤ r.l
    · rw [if_pos ⟨c1, c2⟩]
      refine ⟨.d (.int (max r.f a)), ?_⟩
      unfold eR atR
      dsimp only
      generalize max r.f a = m at *
      generalize min r.l b = n at *
      simp [c1, c2, m1, m2, m3, z1, z2, -mulD_int, -maxG_, -minG_]
    · rw [if_neg fun z => c2 z.2]
      refine ⟨t8', ?_⟩
      simp [c1, c2]
  · rw [if_neg fun z => c1 z.1]
    refine ⟨t8', ?_⟩
    simp [c1]
theorem cut_loop (v : S) (a b : Int) (ha : a.natAbs ≤ 2 ^ 60) : ∀ (rs : List Rw) (found : List D) (s4 s5 s6 s7 s8 : S), (∀ r ∈ rs, Sm r) → found.length + rs.length < 1000000 →
    ∃ t4 t5 t6 t7 t8, gFor (gtT (gtsCons (gtN 4) (gtsCons (gtN 5) (gtsCons (gtN 6) (gtsCons (gtN 7) gtsNil))))) (sIf (tAndM (op2 leD (eV 4) (eV 2)) (op2 geD (eV 5) (eV 1))) (gSeq (sSet 8 (eCd maxG (aCons (eV 4) (aCons (eV 1) aNil))))
        (sExp (eMt appG (eV 3) (aCons (eTup (aCons (eV 8) (aCons (eCd minG (aCons (eV 5) (aCons (eV 2) aNil))) (aCons (eV 6) (aCons (eBin addD (eV 7) (eBin mulD (eV 6) (eBin subD (eV 8) (eV 4)))) aNil))))) aNil)))) gNil) (rs.map eR) [v, .d (.int a), .d (.int b), .cel 0, s4, s5, s6, s7, s8] [.lst found] =
      .nx [v, .d (.int a), .d (.int b), .cel 0, t4, t5, t6, t7, t8] [.lst (found ++ (cutR rs a b).map eR)]
  | [], found, s4, s5, s6, s7, s8, _, _ => ⟨s4, s5, s6, s7, s8, by simp [cutR]⟩
  | r :: rs, found, s4, s5, s6, s7, s8, h, hl => by
    rw [List.length_cons] at hl
    obtain ⟨t8, e1⟩ := cut_step v a b found (r := r) s8 (by omega) ha (h r (by simp))
    obtain ⟨u4, u5, u6, u7, u8, e2⟩ := cut_loop v a b ha rs (found ++ (if r.f ≤ b ∧ a ≤ r.l then [eR (atR r (max r.f a) (min r.l b))] else [])) (.d (.int r.f)) (.d (.int r.l)) (.d (.int r.s)) (.d (.int r.a)) t8 (fun z hz => h z (by simp [hz])) (by rw [List.length_append]; split <;> simp <;> omega)
    refine ⟨u4, u5, u6, u7, u8, ?_⟩
    rw [List.map_cons, gFor_cons, cutR_cons, List.map_append, ← List.append_assoc]
    have ee : (if r.f ≤ b ∧ a ≤ r.l then [atR r (max r.f a) (min r.l b)] else []).map eR = (if r.f ≤ b ∧ a ≤ r.l then [eR (atR r (max r.f a) (min r.l b))] else []) := by split <;> rfl
    rw [ee]
    have e3 : eR r = .tuple [.int r.f, .int r.l, .int r.s, .int r.a] := rfl
    rw [e3]
    simp only [gtT_, gtsCons_, gtN_, gtsNil_, Option.bind_some, List.set_cons_succ, List.set_cons_zero]
    rw [e1]
    exact e2
theorem cut_ (a b : Int) {rs : List Rw} (ha : a.natAbs ≤ 2 ^ 60) (h : ∀ r ∈ rs, Sm r) (hl : rs.length < 1000000) : F_cut [.d (.list (rs.map eR)), .d (.int a), .d (.int b)] [] = .ok (.own (.lst ((cutR rs a b).map eR))) [] := by
  obtain ⟨u4, u5, u6, u7, u8, e⟩ := cut_loop (.d (.list (rs.map eR))) a b ha rs [] .no .no .no .no .no h (by simpa using hl)
  have b1 : sNew 3 (eLst aNil) [.d (.list (rs.map eR)), .d (.int a), .d (.int b), .no, .no, .no, .no, .no, .no] [] = .nx [.d (.list (rs.map eR)), .d (.int a), .d (.int b), .cel 0, .no, .no, .no, .no, .no] [.lst []] := by simp
  have b2 := sFor_of (it := iAnyM (eV 0)) (cs := [.lst []]) (cs1 := [.lst []]) (by simp) e
  have b3 : sRet (eRv (eV 3)) [.d (.list (rs.map eR)), .d (.int a), .d (.int b), .cel 0, u4, u5, u6, u7, u8] [.lst ((cutR rs a b).map eR)] = .rt (.cel 0) [.lst ((cutR rs a b).map eR)] := by simp
  have b4 := gSeq_of b1 (gSeq_of b2 b3)
  unfold F_cut
  rw [runG_]
  exact (congrArg (fin 0) b4).trans (by simp [fin_cel])
def ifF (lo hi : Int) (F G : Int → Int) (x : Int) : Int := if lo ≤ x ∧ x ≤ hi then F x else G x
theorem atR_sl {rs : List Rw} {a b : Int} {B : Nat} (h : ∀ r ∈ rs, r.s.natAbs ≤ B) : ∀ q ∈ cutR rs a b, q.s.natAbs ≤ B := fun q hq => by
  obtain ⟨r, hr, rfl⟩ := List.mem_map.1 hq
  exact h r (List.mem_filter.1 hr).1
theorem chosen_ {F G : Int → Int} {one two : List Rw} {lo hi : Int} (h0 : 0 ≤ lo) (hlh : lo ≤ hi) (hM : hi ≤ 1000000000000) (h1 : Ln one F) (h2 : Ln two G) (b1 : Bv F (2 ^ 80)) (b2 : Bv G (2 ^ 80)) (hl : one.length + 2 * two.length < 1000000) :
    ∃ rs, F_chosen [.d (.int lo), .d (.int hi), .d (.list (one.map eR)), .d (.list (two.map eR))] [] = .ok (.own (.lst (rs.map eR))) [] ∧ Ln rs (ifF lo hi F G) ∧ rs.length ≤ one.length + 2 * two.length := by
  let A := if 0 < lo then cutR two 0 (lo - 1) else []
  let C := if hi < 1000000000000 then cutR two (hi + 1) 1000000000000 else []
  have hA : Rep A 0 (lo - 1) (ifF lo hi F G) := by
    show Rep (if 0 < lo then cutR two 0 (lo - 1) else []) 0 (lo - 1) _
    split
    · exact ((cut_rep (by omega) (by omega) two 0 h2.r).1 (by omega)).congr fun x a b => by unfold ifF; rw [if_neg (by omega)]
    · show (0 : Int) = lo - 1 + 1; omega
  have hB : Rep (cutR one lo hi) lo hi (ifF lo hi F G) := by
    have := (cut_rep hM hlh one 0 h1.r).1 (by omega)
    rw [show max 0 lo = lo by omega] at this
    exact this.congr fun x a b => by unfold ifF; rw [if_pos ⟨a, b⟩]
  have hC : Rep C (hi + 1) 1000000000000 (ifF lo hi F G) := by
    show Rep (if hi < 1000000000000 then cutR two (hi + 1) 1000000000000 else []) (hi + 1) 1000000000000 _
    split
    · have := (cut_rep (a := hi + 1) (Int.le_refl 1000000000000) (by omega) two 0 h2.r).1 (by omega)
      rw [show max 0 (hi + 1) = hi + 1 by omega] at this
      exact this.congr fun x a b => by unfold ifF; rw [if_neg (by omega)]
    · show hi + 1 = 1000000000000 + 1; omega
  have hr : Rep (A ++ cutR one lo hi ++ C) 0 1000000000000 (ifF lo hi F G) := by
    rw [List.append_assoc]
    refine rep_app.2 ⟨lo - 1, hA, rep_app.2 ⟨hi, ?_, hC⟩⟩
    rw [show lo - 1 + 1 = lo by omega]; exact hB
  have sm1 := h1.sm b1
  have sm2 := h2.sm b2
  have hsl : ∀ q ∈ A ++ cutR one lo hi ++ C, q.s.natAbs < 2 ^ 200 := fun q hq => by
    refine Nat.lt_of_le_of_lt (m := 2 ^ 100) ?_ (by decide)
    rcases List.mem_append.1 hq with hq | hq
    · rcases List.mem_append.1 hq with hq | hq
      · have hq' : q ∈ (if 0 < lo then cutR two 0 (lo - 1) else []) := hq
        split at hq'
        · exact atR_sl (fun r hr => (sm2 r hr).2.2) q hq'
        · cases hq'
      · exact atR_sl (fun r hr => (sm1 r hr).2.2) q hq
    · have hq' : q ∈ (if hi < 1000000000000 then cutR two (hi + 1) 1000000000000 else []) := hq
      split at hq'
      · exact atR_sl (fun r hr => (sm2 r hr).2.2) q hq'
      · cases hq'
  have lA : A.length ≤ two.length := by
    show (if 0 < lo then cutR two 0 (lo - 1) else []).length ≤ _
    split
    · exact cutR_len _ _ _
    · exact Nat.zero_le _
  have lB := cutR_len one lo hi
  have lC : C.length ≤ two.length := by
    show (if hi < 1000000000000 then cutR two (hi + 1) 1000000000000 else []).length ≤ _
    split
    · exact cutR_len _ _ _
    · exact Nat.zero_le _
  have ll : (A ++ cutR one lo hi ++ C).length ≤ one.length + 2 * two.length := by
    rw [List.length_append, List.length_append]; omega
  have j := joined_ hr hsl (by omega)
  refine ⟨jn (A ++ cutR one lo hi ++ C), ?_, jn_ln hr, by have := jn_len (A ++ cutR one lo hi ++ C); omega⟩
  have k1 := cut_ 0 (lo - 1) (rs := two) (by decide) sm2 (by omega)
  have k2 := cut_ lo hi (rs := one) (by omega) sm1 (by omega)
  have k3 := cut_ (hi + 1) 1000000000000 (rs := two) (by omega) sm2 (by omega)
  rw [List.map_append, List.map_append] at j
  have z1 : (A.map eR).length + ((cutR one lo hi).map eR).length ≤ sizeLine := size_ok (by rw [List.length_map, List.length_map]; omega)
  have z2 : (A.map eR ++ (cutR one lo hi).map eR).length + (C.map eR).length ≤ sizeLine := size_ok (by rw [List.length_append, List.length_map, List.length_map, List.length_map]; omega)
  have s1 : sSet 4 (eIf (op2 gtD (eV 0) (eC (.int (0)))) (eFrz (eCall F_cut (aCons (eV 3) (aCons (eC (.int (0))) (aCons (eBin subD (eV 0) (eC (.int (1)))) aNil))))) (eFrz (eLst aNil))) [.d (.int lo), .d (.int hi), .d (.list (one.map eR)), .d (.list (two.map eR)), .no] [] = .nx [.d (.int lo), .d (.int hi), .d (.list (one.map eR)), .d (.list (two.map eR)), .d (.list (A.map eR))] [] := by
    show _ = Out.nx [_, _, _, _, .d (.list ((if 0 < lo then cutR two 0 (lo - 1) else []).map eR))] []
    by_cases c : 0 < lo
    · simp [c, k1]
    · simp [c]
  have s2 : sSet 4 (eBin addD (eV 4) (eFrz (eCall F_cut (aCons (eV 2) (aCons (eV 0) (aCons (eV 1) aNil)))))) [.d (.int lo), .d (.int hi), .d (.list (one.map eR)), .d (.list (two.map eR)), .d (.list (A.map eR))] [] = .nx [.d (.int lo), .d (.int hi), .d (.list (one.map eR)), .d (.list (two.map eR)), .d (.list (A.map eR ++ (cutR one lo hi).map eR))] [] := by
    generalize A.map eR = AA at *
    generalize (cutR one lo hi).map eR = BB at *
    simp [k2, z1]
  have s3 : sIf (op2 ltD (eV 1) (eC (.int (1000000000000)))) (sSet 4 (eBin addD (eV 4) (eFrz (eCall F_cut (aCons (eV 3) (aCons (eBin addD (eV 1) (eC (.int (1)))) (aCons (eC (.int (1000000000000))) aNil))))))) gNil [.d (.int lo), .d (.int hi), .d (.list (one.map eR)), .d (.list (two.map eR)), .d (.list (A.map eR ++ (cutR one lo hi).map eR))] [] = .nx [.d (.int lo), .d (.int hi), .d (.list (one.map eR)), .d (.list (two.map eR)), .d (.list (A.map eR ++ (cutR one lo hi).map eR ++ C.map eR))] [] := by
    have z2' : (A.map eR ++ (cutR one lo hi).map eR).length + ((if hi < 1000000000000 then cutR two (hi + 1) 1000000000000 else []).map eR).length ≤ sizeLine := z2
    show _ = Out.nx [_, _, _, _, .d (.list (_ ++ (if hi < 1000000000000 then cutR two (hi + 1) 1000000000000 else []).map eR))] []
    generalize A.map eR ++ (cutR one lo hi).map eR = AA at *
    by_cases c : hi < 1000000000000
    · rw [if_pos c] at z2' ⊢
      generalize (cutR two (hi + 1) 1000000000000).map eR = BB at *
      simp [c, k3, z2']
    · rw [if_neg c]
      simp [c]
  have s4 : sRet (eCall F_joined (aCons (eV 4) aNil)) [.d (.int lo), .d (.int hi), .d (.list (one.map eR)), .d (.list (two.map eR)), .d (.list (A.map eR ++ (cutR one lo hi).map eR ++ C.map eR))] [] = .rt (.own (.lst ((jn (A ++ cutR one lo hi ++ C)).map eR))) [] := by
    generalize A.map eR ++ (cutR one lo hi).map eR ++ C.map eR = AA at *
    simp [j]
  unfold F_chosen
  rw [runG_]
  exact (congrArg (fin 0) (gSeq_of s1 (gSeq_of s2 (gSeq_of s3 s4)))).trans (by simp)
theorem Rep.find {F : Int → Int} : ∀ {rs : List Rw} {x0 x1 : Int}, Rep rs x0 x1 F → ∀ x, x0 ≤ x → x ≤ x1 → ∃ r ∈ rs, r.f ≤ x ∧ x ≤ r.l
  | [], x0, x1, h, x, a, b => by have h' : x0 = x1 + 1 := h; omega
  | r :: rs, x0, x1, ⟨h1, h2, h3, h4⟩, x, a, b => by
    by_cases c : x ≤ r.l
    · exact ⟨r, by simp, by omega, c⟩
    · obtain ⟨q, m, e⟩ := h4.find x (by omega) b
      exact ⟨q, by simp [m], e⟩
def endV (r : Rw) : Int := r.a + r.s * (r.l - r.f)
theorem ends_bd {r : Rw} {x : Int} (h1 : r.f ≤ x) (h2 : x ≤ r.l) : min r.a (endV r) ≤ r.a + r.s * (x - r.f) ∧ r.a + r.s * (x - r.f) ≤ max r.a (endV r) := by
  have a := lin_le (a := 0) (b := min r.a (endV r)) (c := r.s) (d := r.a) (n := r.l - r.f) (t := x - r.f) (by omega) (by rw [Int.zero_mul]; unfold endV; omega) (by omega) (by omega)
  have b := lin_le (a := r.s) (b := r.a) (c := 0) (d := max r.a (endV r)) (n := r.l - r.f) (t := x - r.f) (by omega) (by rw [Int.zero_mul]; unfold endV; omega) (by omega) (by omega)
  rw [Int.zero_mul] at a b
  omega
theorem intsD_map {α : Type} (v : α → Int) : ∀ xs : List α, intsD (xs.map fun x => .int (v x)) = some (xs.map v)
  | [] => rfl
  | x :: xs => by
    show (intsD (xs.map fun x => .int (v x))).map (v x :: ·) = _
    rw [intsD_map v xs]; rfl
theorem mulR {r : Rw} (h : Sm r) {k : Int} (hk : k.natAbs ≤ 2 ^ 60) : mulD (.int r.s) (.int k) = some (.int (r.s * k)) := mulB (Nat.lt_of_le_of_lt h.2.2 (by decide)) (Nat.lt_of_le_of_lt hk (by decide))
theorem Ln.at {rs : List Rw} {F : Int → Int} (h : Ln rs F) : ∀ r ∈ rs, 0 ≤ r.f ∧ r.f ≤ r.l ∧ r.l ≤ 1000000000000 ∧ F r.f = r.a ∧ F r.l = endV r ∧ ∀ x, r.f ≤ x → x ≤ r.l → F x = r.a + r.s * (x - r.f) := fun r hr => by
  obtain ⟨a, b, c, d⟩ := h.r.mem r hr
  have e := d r.f (by omega) b
  rw [Int.sub_self, Int.mul_zero, Int.add_zero] at e
  exact ⟨a, b, c, e, d r.l b (Int.le_refl _), d⟩
theorem least_value_ {F : Int → Int} {rs : List Rw} (h : Ln rs F) (hB : Bv F (2 ^ 80)) (hl : rs.length < 1000000) :
    ∃ m, F_least_value [.d (.list (rs.map eR))] [] = .ok (.d (.int m)) [] ∧ (∀ x, 0 ≤ x → x ≤ 1000000000000 → m ≤ F x) ∧ ∃ x, 0 ≤ x ∧ x ≤ 1000000000000 ∧ F x = m := by
  have sm := h.sm hB
  have lc := lcAll (cs := []) (tg := gtT (gtsCons (gtN 1) (gtsCons (gtN 2) (gtsCons (gtN 3) (gtsCons (gtN 4) gtsNil))))) (f := eCd minG (aCons (eV 4) (aCons (eBin addD (eV 4) (eBin mulD (eV 3) (eBin subD (eV 2) (eV 1)))) aNil))) (ρ := [.d (.list (rs.map eR)), .no, .no, .no, .no]) eR (fun r => .int (min r.a (endV r))) rs (fun r hr => by
    obtain ⟨a, b, c, _⟩ := h.at r hr
    have m1 := mulR (sm r hr) (k := r.l - r.f) (by omega)
    have m2 : minG [.int r.a, .int (endV r)] = some (.int (min r.a (endV r))) := by
      rw [minG_]
      split <;> (congr 2; omega)
    refine ⟨[.d (.list (rs.map eR)), .d (.int r.f), .d (.int r.l), .d (.int r.s), .d (.int r.a)], rfl, ?_⟩
    unfold endV at *
    simp [m1, m2, -mulD_int, -minG_]) (by omega)
  obtain ⟨r0, t0, e0⟩ := h.ne
  have ne : rs.map (fun r => min r.a (endV r)) ≠ [] := by rw [e0]; simp
  refine ⟨leastI (rs.map fun r => min r.a (endV r)), ?_, fun x a b => ?_, ?_⟩
  · have mg : minLG [.list (rs.map fun r => .int (min r.a (endV r)))] = some (.int (leastI (rs.map fun r => min r.a (endV r)))) := by
      show (match intsD _ with
        | some ns => _
        | none => _) = _
      rw [intsD_map]
      show (if 0 < (rs.map fun r => min r.a (endV r)).length then _ else _) = _
      rw [if_pos (List.length_pos_iff.2 ne)]
    unfold F_least_value B_least_value
    rw [runG_]
    generalize leastI (rs.map fun r => min r.a (endV r)) = m at *
    simp [lc, mg]
  · obtain ⟨r, m, p, q⟩ := h.r.find x a b
    rw [(h.at r m).2.2.2.2.2 x p q]
    exact Int.le_trans (leastI_is.least_le _ _ (List.mem_map.2 ⟨r, m, rfl⟩)) (ends_bd p q).1
  · obtain ⟨r, m, e⟩ := List.mem_map.1 (leastI_is.least_mem _ ne)
    obtain ⟨a, b, c, d1, d2, _⟩ := h.at r m
    rw [← e]
    by_cases z : r.a ≤ endV r
    · exact ⟨r.f, a, by omega, by rw [d1]; omega⟩
    · exact ⟨r.l, by omega, c, by rw [d2]; omega⟩
theorem greatest_value_ {F : Int → Int} {rs : List Rw} (h : Ln rs F) (hB : Bv F (2 ^ 80)) (hl : rs.length < 1000000) :
    ∃ m, F_greatest_value [.d (.list (rs.map eR))] [] = .ok (.d (.int m)) [] ∧ (∀ x, 0 ≤ x → x ≤ 1000000000000 → F x ≤ m) ∧ ∃ x, 0 ≤ x ∧ x ≤ 1000000000000 ∧ F x = m := by
  have sm := h.sm hB
  have lc := lcAll (cs := []) (tg := gtT (gtsCons (gtN 1) (gtsCons (gtN 2) (gtsCons (gtN 3) (gtsCons (gtN 4) gtsNil))))) (f := eCd maxG (aCons (eV 4) (aCons (eBin addD (eV 4) (eBin mulD (eV 3) (eBin subD (eV 2) (eV 1)))) aNil))) (ρ := [.d (.list (rs.map eR)), .no, .no, .no, .no]) eR (fun r => .int (max r.a (endV r))) rs (fun r hr => by
    obtain ⟨a, b, c, _⟩ := h.at r hr
    have m1 := mulR (sm r hr) (k := r.l - r.f) (by omega)
    have m2 : maxG [.int r.a, .int (endV r)] = some (.int (max r.a (endV r))) := by
      rw [maxG_]
      split <;> (congr 2; omega)
    refine ⟨[.d (.list (rs.map eR)), .d (.int r.f), .d (.int r.l), .d (.int r.s), .d (.int r.a)], rfl, ?_⟩
    unfold endV at *
    simp [m1, m2, -mulD_int, -maxG_]) (by omega)
  obtain ⟨r0, t0, e0⟩ := h.ne
  have ne : rs.map (fun r => max r.a (endV r)) ≠ [] := by rw [e0]; simp
  refine ⟨mostI (rs.map fun r => max r.a (endV r)), ?_, fun x a b => ?_, ?_⟩
  · have mg : maxLG [.list (rs.map fun r => .int (max r.a (endV r)))] = some (.int (mostI (rs.map fun r => max r.a (endV r)))) := by
      show (match intsD _ with
        | some ns => _
        | none => _) = _
      rw [intsD_map]
      show (if 0 < (rs.map fun r => max r.a (endV r)).length then _ else _) = _
      rw [if_pos (List.length_pos_iff.2 ne)]
    unfold F_greatest_value B_greatest_value
    rw [runG_]
    generalize mostI (rs.map fun r => max r.a (endV r)) = m at *
    simp [lc, mg]
  · obtain ⟨r, m, p, q⟩ := h.r.find x a b
    rw [(h.at r m).2.2.2.2.2 x p q]
    exact Int.le_trans (ends_bd p q).2 (mostI_is.le_most _ _ (List.mem_map.2 ⟨r, m, rfl⟩))
  · obtain ⟨r, m, e⟩ := List.mem_map.1 (mostI_is.most_mem _ ne)
    obtain ⟨a, b, c, d1, d2, _⟩ := h.at r m
    rw [← e]
    by_cases z : r.a ≤ endV r
    · exact ⟨r.l, by omega, c, by rw [d2]; omega⟩
    · exact ⟨r.f, a, by omega, by rw [d1]; omega⟩
theorem value_at_one {r : Rw} (h : Sm r) (h1 : r.f ≤ r.l) (h2 : r.l ≤ 1000000000000) : F_value_at [.d (.list [eR r]), .d (.int r.l)] [] = .ok (.d (.int (endV r))) [] := by
  have m1 := mulR h (k := r.l - r.f) (by have := h.1; omega)
  unfold F_value_at B_value_at
  rw [runG_]
  unfold eR endV
  simp [gFor_cons, h1, m1, -mulD_int]
/-- the rise from x to the next one is 0 or 1 -/
def St (F : Int → Int) (x : Int) : Prop := F (x + 1) - F x = 0 ∨ F (x + 1) - F x = 1
def Gn (F : Int → Int) : Prop := F 0 = 0 ∧ ∀ x, 0 ≤ x → x < 1000000000000 → St F x
def b01 (x : Int) : Bool := x == 0 || x == 1
def okR (r : Rw) : Bool := !(decide (r.f < r.l)) || b01 r.s
def okJ (p r : Rw) : Bool := b01 (r.a - endV p)
def gk : Rw → List Rw → Bool
  | _, [] => true
  | p, r :: rs => okR r && okJ p r && gk r rs
theorem b01_iff (x : Int) : b01 x = true ↔ x = 0 ∨ x = 1 := by unfold b01; simp
theorem okR_iff {F : Int → Int} {r : Rw} (h : ∀ x, r.f ≤ x → x ≤ r.l → F x = r.a + r.s * (x - r.f)) : okR r = true ↔ ∀ x, r.f ≤ x → x < r.l → St F x := by
  unfold okR
  have d : ∀ x, r.f ≤ x → x < r.l → F (x + 1) - F x = r.s := fun x a b => by
    rw [h x a (by omega), h (x + 1) (by omega) (by omega), show x + 1 - r.f = (x - r.f) + 1 by omega, Int.mul_add]
    omega
  constructor
  · intro k x a b
    have : b01 r.s = true := by
      rcases (Bool.or_eq_true _ _).mp k with z | z
      · simp at z; omega
      · exact z
    unfold St
    rw [d x a b]
    exact (b01_iff _).1 this
  · intro k
    by_cases c : r.f < r.l
    · have := k r.f (Int.le_refl _) c
      unfold St at this
      rw [d r.f (Int.le_refl _) c] at this
      rw [(b01_iff _).2 this]; simp
    · simp [c]
theorem gk_iff {F : Int → Int} : ∀ (rs : List Rw) (p : Rw), F p.l = endV p → Rep rs (p.l + 1) 1000000000000 F → (gk p rs = true ↔ ∀ x, p.l ≤ x → x < 1000000000000 → St F x)
  | [], p, e, h => by
    have h' : p.l + 1 = 1000000000000 + 1 := h
    exact ⟨fun _ x a b => by omega, fun _ => rfl⟩
  | r :: rs, p, e, ⟨h1, h2, h3, h4⟩ => by
    have ih := gk_iff rs r (h3 r.l h2 (Int.le_refl _)) h4
    have e0 := h3 r.f (Int.le_refl _) h2
    rw [Int.sub_self, Int.mul_zero, Int.add_zero] at e0
    have ej : okJ p r = true ↔ St F p.l := by
      unfold okJ St
      rw [b01_iff, ← h1, e0, e]
    unfold gk
    rw [Bool.and_eq_true, Bool.and_eq_true, okR_iff h3, ej, ih]
    have l4 := h4.le
    constructor
    · rintro ⟨⟨a, b⟩, c⟩ x p1 p2
      by_cases z : x = p.l
      · rw [z]; exact b
      · by_cases y : x < r.l
        · exact a x (by omega) y
        · exact c x (by omega) p2
    · intro k
      exact ⟨⟨fun x a b => k x (by omega) (by omega), k p.l (Int.le_refl _) (by omega)⟩, fun x a b => k x (by omega) b⟩
theorem ninD01 (x : Int) : ninD (.int x) (.tuple [.int 0, .int 1]) = some (!b01 x) := by
  have e : inD (.int x) (.tuple [.int 0, .int 1]) = some (b01 x) := by
    rw [inD_tup]
    show some (PyData.eqv (.int 0) (.int x) || (PyData.eqv (.int 1) (.int x) || false)) = _
    unfold b01
    by_cases c : x = 0
    · subst c; rfl
    · by_cases d : x = 1
      · subst d; rfl
      · have c' : ¬ 0 = x := fun z => c z.symm
        have d' : ¬ 1 = x := fun z => d z.symm
        simp [PyData.eqv, c, d, c', d']
        rw [beq_eq_false_iff_ne.2 c, beq_eq_false_iff_ne.2 d, beq_eq_false_iff_ne.2 c', beq_eq_false_iff_ne.2 d']
  rw [ninD_eq, e]; rfl
theorem iRngNat {f : List S → M S} {ρ : List S} {cs : Store} {n : Nat} (h : f ρ cs = .ok (.d (.int (n : Int))) cs) (hn : n ≤ 1000000) : iRng f ρ cs = .ok (rngD 0 n) cs := by
  have a : -(2 ^ 62) ≤ (n : Int) ∧ (n : Int) < 2 ^ 62 := ⟨by omega, by omega⟩
  rw [iRng_]
  unfold bnd
  rw [h]
  show (if -(2 ^ 62) ≤ (n : Int) ∧ (n : Int) < 2 ^ 62 then ret (rngD 0 (n : Int).toNat) else stuck) cs = _
  rw [if_pos a, Int.toNat_natCast]
  rfl
/-- numbers from i on -/
def upN (i : Nat) : Nat → List D
  | 0 => []
  | n + 1 => .int (i : Nat) :: upN (i + 1) n
theorem rng_up : ∀ (n i : Nat), ((List.range' i n).map fun (k : Nat) => PyData.int (k : Nat)) = upN i n
  | 0, _ => rfl
  | n + 1, i => by rw [List.range'_succ, List.map_cons, rng_up n (i + 1)]; rfl
theorem rngD_up (n : Nat) : rngD 0 n = upN 0 n := by
  rw [← rng_up n 0, List.range'_eq_map_range]
  unfold rngD
  rw [List.map_map]
  refine List.map_congr_left fun k _ => ?_
  show PyData.int (0 + (k : Int)) = PyData.int ((0 + k : Nat) : Int)
  rw [Int.zero_add, Nat.zero_add]
abbrev gentleB : G := (gSeq (sTgt (gtT (gtsCons (gtN 2) (gtsCons (gtN 3) (gtsCons (gtN 4) (gtsCons (gtN 5) gtsNil))))) (eBin ixD (eV 0) (eV 1)))
      (gSeq (sIf (tAndM (op2 gtD (eV 3) (eV 2)) (op2 ninD (eV 4) (eTup (aCons (eC (.int (0))) (aCons (eC (.int (1))) aNil))))) (sRet (eRv (eC (.bool false)))) gNil)
      (sIf (tAndM (op2 gtD (eV 1) (eC (.int (0)))) (op2 ninD (eBin subD (eV 5) (eFrz (eCall F_value_at (aCons (eFrz (eLst (aCons (eBin ixD (eV 0) (eBin subD (eV 1) (eC (.int (1))))) aNil))) (aCons (eBin ixD (eBin ixD (eV 0) (eBin subD (eV 1) (eC (.int (1))))) (eC (.int (1)))) aNil))))) (eTup (aCons (eC (.int (0))) (aCons (eC (.int (1))) aNil))))) (sRet (eRv (eC (.bool false)))) gNil)))
theorem gentle_step0 (L : List D) {r : Rw} (s1 s2 s3 s4 s5 : S) (h : atI L 0 = some (eR r)) :
    (okR r = true → gentleB [.d (.list L), .d (.int 0), s2, s3, s4, s5] [] = .nx [.d (.list L), .d (.int 0), .d (.int r.f), .d (.int r.l), .d (.int r.s), .d (.int r.a)] []) ∧
    (okR r = false → gentleB [.d (.list L), .d (.int 0), s2, s3, s4, s5] [] = .rt (.d (.bool false)) []) := by
  have e : eR r = .tuple [.int r.f, .int r.l, .int r.s, .int r.a] := rfl
  rw [e] at h
  unfold okR gentleB
  have n1 := ninD01 r.s
  by_cases c : r.f < r.l
  · cases b : b01 r.s <;> rw [b] at n1 <;> simp [h, c, n1, -ninD_of]
  · simp [h, c]
theorem gentle_step (L : List D) (k : Nat) {p r : Rw} (s2 s3 s4 s5 : S) (h : atI L ((k + 1 : Nat) : Int) = some (eR r)) (hp : atI L (k : Int) = some (eR p)) (sp : Sm p) (p1 : p.f ≤ p.l) (p2 : p.l ≤ 1000000000000) :
    ((okR r && okJ p r) = true → gentleB [.d (.list L), .d (.int ((k + 1 : Nat) : Int)), s2, s3, s4, s5] [] = .nx [.d (.list L), .d (.int ((k + 1 : Nat) : Int)), .d (.int r.f), .d (.int r.l), .d (.int r.s), .d (.int r.a)] []) ∧
    ((okR r && okJ p r) = false → gentleB [.d (.list L), .d (.int ((k + 1 : Nat) : Int)), s2, s3, s4, s5] [] = .rt (.d (.bool false)) []) := by
  have va := value_at_one sp p1 p2
  have e : eR r = .tuple [.int r.f, .int r.l, .int r.s, .int r.a] := rfl
  have e' : eR p = .tuple [.int p.f, .int p.l, .int p.s, .int p.a] := rfl
  rw [e] at h
  rw [e'] at hp va
  have k1 : ((k + 1 : Nat) : Int) - 1 = (k : Int) := by omega
  have k0 : (0 : Int) < ((k + 1 : Nat) : Int) := by omega
  unfold okR okJ gentleB
  have n1 := ninD01 r.s
  have n2 := ninD01 (r.a - endV p)
  generalize ((k + 1 : Nat) : Int) = K at *
  generalize b01 (r.a - endV p) = B2 at *
  by_cases c : r.f < r.l
  · cases b : b01 r.s <;> rw [b] at n1 <;> cases B2 <;> simp [h, c, n1, n2, k0, k1, hp, va, -ninD_of]
  · cases B2 <;> simp [h, c, n2, k0, k1, hp, va, -ninD_of]
theorem gentle_loop {F : Int → Int} {one : List Rw} (sm : ∀ r ∈ one, Sm r ∧ r.f ≤ r.l ∧ r.l ≤ 1000000000000) : ∀ (rs l1 : List Rw) (p : Rw) (s1 s2 s3 s4 s5 : S), one = l1 ++ p :: rs →
    (gk p rs = true ∧ ∃ t1 t2 t3 t4 t5, gFor (gtN 1) gentleB (upN (l1.length + 1) rs.length) [.d (.list (one.map eR)), s1, s2, s3, s4, s5] [] = .nx [.d (.list (one.map eR)), t1, t2, t3, t4, t5] []) ∨
    (gk p rs = false ∧ gFor (gtN 1) gentleB (upN (l1.length + 1) rs.length) [.d (.list (one.map eR)), s1, s2, s3, s4, s5] [] = .rt (.d (.bool false)) [])
  | [], l1, p, s1, s2, s3, s4, s5, _ => .inl ⟨rfl, s1, s2, s3, s4, s5, rfl⟩
  | r :: rs, l1, p, s1, s2, s3, s4, s5, e => by
    have e' : one = (l1 ++ [p]) ++ r :: rs := by rw [e]; simp
    obtain ⟨sp, p1, p2⟩ := sm p (by simp [e])
    have a1 : atI (one.map eR) ((l1.length + 1 : Nat) : Int) = some (eR r) := by
      have := map_at (l1 := l1 ++ [p]) (r := r) (rs := rs) (L := one.map eR) (by rw [e'])
      rw [List.length_append, List.length_singleton] at this
      exact this
    have a0 : atI (one.map eR) (l1.length : Int) = some (eR p) := map_at (by rw [e])
    obtain ⟨g1, g2⟩ := gentle_step (one.map eR) l1.length s2 s3 s4 s5 a1 a0 sp p1 p2
    have ih := gentle_loop (F := F) sm rs (l1 ++ [p]) r (.d (.int ((l1.length + 1 : Nat) : Int))) (.d (.int r.f)) (.d (.int r.l)) (.d (.int r.s)) (.d (.int r.a)) e'
    rw [List.length_append, List.length_singleton] at ih
    have un : upN (l1.length + 1) (r :: rs).length = .int ((l1.length + 1 : Nat) : Int) :: upN (l1.length + 1 + 1) rs.length := rfl
    rw [un, gFor_cons]
    show (((okR r && okJ p r) && gk r rs) = true ∧ _) ∨ (((okR r && okJ p r) && gk r rs) = false ∧ _)
    cases c : okR r && okJ p r with
    | false =>
      refine .inr ⟨rfl, ?_⟩
      simp only [gtN_, List.set_cons_succ, List.set_cons_zero]
      rw [g2 c]
    | true =>
      rw [Bool.true_and]
      simp only [gtN_, List.set_cons_succ, List.set_cons_zero]
      rw [g1 c]
      exact ih
theorem is_gentle_ {F : Int → Int} {rs : List Rw} (h : Ln rs F) (hB : Bv F (2 ^ 80)) (hl : rs.length < 1000000) : ∃ b, F_is_gentle [.d (.list (rs.map eR))] [] = .ok (.d (.bool b)) [] ∧ (b = true ↔ Gn F) := by
  obtain ⟨r, t, e⟩ := h.ne
  have sm := h.sm hB
  have at_ := h.at
  have hr := h.r
  rw [e] at hr
  obtain ⟨h1, h2, h3, h4⟩ := hr
  have ar : F 0 = r.a := by
    have := h3 r.f (Int.le_refl _) h2
    rw [Int.sub_self, Int.mul_zero, Int.add_zero, h1] at this
    exact this
  have gi := gk_iff t r (h3 r.l h2 (Int.le_refl _)) h4
  have oi := okR_iff h3
  have key : Gn F ↔ r.a = 0 ∧ okR r = true ∧ gk r t = true := by
    unfold Gn
    rw [ar, oi, gi]
    constructor
    · rintro ⟨a, b⟩
      have := h4.le
      exact ⟨a, fun x c d => b x (by omega) (by omega), fun x c d => b x (by omega) d⟩
    · rintro ⟨a, b, c⟩
      refine ⟨a, fun x d e => ?_⟩
      by_cases z : x < r.l
      · exact b x (by omega) z
      · exact c x (by omega) e
  have a0 : atI (rs.map eR) 0 = some (.tuple [.int r.f, .int r.l, .int r.s, .int r.a]) := by rw [e]; exact atI0 _ _
  have lp := gentle_loop (F := F) (one := rs) (fun q hq => ⟨sm q hq, (at_ q hq).2.1, (at_ q hq).2.2.1⟩) t [] r (.d (.int 0)) (.d (.int r.f)) (.d (.int r.l)) (.d (.int r.s)) (.d (.int r.a)) e
  have ll : (rs.map eR).length = t.length + 1 := by rw [e]; simp
  have ir : ∀ s, iRng (eCd lenG (aCons (eV 0) aNil)) [.d (.list (rs.map eR)), s, .no, .no, .no, .no] [] = .ok (rngD 0 (t.length + 1)) [] := fun s => iRngNat (by rw [← ll]; generalize rs.map eR = L; simp) (by rw [e] at hl; simp at hl; omega)
  have up : rngD 0 (t.length + 1) = .int 0 :: upN (([] : List Rw).length + 1) t.length := rngD_up _
  obtain ⟨g1, g2⟩ := gentle_step0 (rs.map eR) (r := r) .no .no .no .no .no a0
  unfold F_is_gentle B_is_gentle
  rw [runG_]
  by_cases c : r.a = 0
  · have s1 : sIf (op2 neD (eBin ixD (eBin ixD (eV 0) (eC (.int (0)))) (eC (.int (3)))) (eC (.int (0)))) (sRet (eRv (eC (.bool false)))) gNil [.d (.list (rs.map eR)), .no, .no, .no, .no, .no] [] = .nx [.d (.list (rs.map eR)), .no, .no, .no, .no, .no] [] := by
      generalize rs.map eR = L at *
      simp [a0, c]
    cases o : okR r with
    | false =>
      refine ⟨false, ?_, by rw [key]; simp [o]⟩
      have f1 : gFor (gtN 1) gentleB (rngD 0 (t.length + 1)) [.d (.list (rs.map eR)), .no, .no, .no, .no, .no] [] = .rt (.d (.bool false)) [] := by
        rw [up, gFor_cons]
        simp only [gtN_, List.set_cons_succ, List.set_cons_zero]
        rw [g2 o]
      have s2 := sFor_of (ir .no) f1
      have s3 : ∀ k : G, gSeq (sFor (gtN 1) (iRng (eCd lenG (aCons (eV 0) aNil))) gentleB) k [.d (.list (rs.map eR)), .no, .no, .no, .no, .no] [] = .rt (.d (.bool false)) [] := fun k => by rw [gSeq_, s2]
      exact (congrArg (fin 0) (gSeq_of s1 (s3 _))).trans (by simp)
    | true =>
      rcases lp with ⟨k1, t1, t2, t3, t4, t5, k2⟩ | ⟨k1, k2⟩
      · refine ⟨true, ?_, by rw [key]; simp [o, k1, c]⟩
        have f1 : gFor (gtN 1) gentleB (rngD 0 (t.length + 1)) [.d (.list (rs.map eR)), .no, .no, .no, .no, .no] [] = .nx [.d (.list (rs.map eR)), t1, t2, t3, t4, t5] [] := by
          rw [up, gFor_cons]
          simp only [gtN_, List.set_cons_succ, List.set_cons_zero]
          rw [g1 o]
          exact k2
        have s2 := sFor_of (ir .no) f1
        have s3 : sRet (eRv (eC (.bool true))) [.d (.list (rs.map eR)), t1, t2, t3, t4, t5] [] = .rt (.d (.bool true)) [] := by simp
        exact (congrArg (fin 0) (gSeq_of s1 (gSeq_of s2 s3))).trans (by simp)
      · refine ⟨false, ?_, by rw [key]; simp [k1]⟩
        have f1 : gFor (gtN 1) gentleB (rngD 0 (t.length + 1)) [.d (.list (rs.map eR)), .no, .no, .no, .no, .no] [] = .rt (.d (.bool false)) [] := by
          rw [up, gFor_cons]
          simp only [gtN_, List.set_cons_succ, List.set_cons_zero]
          rw [g1 o]
          exact k2
        have s2 := sFor_of (ir .no) f1
        have s3 : ∀ k : G, gSeq (sFor (gtN 1) (iRng (eCd lenG (aCons (eV 0) aNil))) gentleB) k [.d (.list (rs.map eR)), .no, .no, .no, .no, .no] [] = .rt (.d (.bool false)) [] := fun k => by rw [gSeq_, s2]
        exact (congrArg (fin 0) (gSeq_of s1 (s3 _))).trans (by simp)
  · refine ⟨false, ?_, by rw [key]; simp [c]⟩
    have s1 : sIf (op2 neD (eBin ixD (eBin ixD (eV 0) (eC (.int (0)))) (eC (.int (3)))) (eC (.int (0)))) (sRet (eRv (eC (.bool false)))) gNil [.d (.list (rs.map eR)), .no, .no, .no, .no, .no] [] = .rt (.d (.bool false)) [] := by
      generalize rs.map eR = L at *
      simp [a0, c]
    have s3 : ∀ k : G, gSeq (sIf (op2 neD (eBin ixD (eBin ixD (eV 0) (eC (.int (0)))) (eC (.int (3)))) (eC (.int (0)))) (sRet (eRv (eC (.bool false)))) gNil) k [.d (.list (rs.map eR)), .no, .no, .no, .no, .no] [] = .rt (.d (.bool false)) [] := fun k => by rw [gSeq_, s1]
    exact (congrArg (fin 0) (s3 _)).trans (by simp)
abbrev vf (t : Int) (p : Py) : Int → Int := fun s => val t s p
/-- each part of it lies within its bounds -/
def okb (t : Int) : Py → Prop
  | .times k p => okb t p ∧ Bv (vf t (.times k p)) 1000000000000000
  | .over p a b => okb t p ∧ Bv (vf t (.over p a b)) 1000000000000000
  | .iff a b p q => okb t p ∧ okb t q ∧ Bv (vf t (.iff a b p q)) 1000000000000000
  | .bin o p q => okb t p ∧ okb t q ∧ Bv (vf t (.bin o p q)) 1000000000000000
  | p => Bv (vf t p) 1000000000000000
def kok (t : Int) : Py → Prop
  | .times _ p => okb t p
  | .over p _ _ => okb t p
  | .iff _ _ p q => okb t p ∧ okb t q
  | .bin _ p q => okb t p ∧ okb t q
  | _ => True
theorem okb_iff {t : Int} (p : Py) : okb t p ↔ kok t p ∧ Bv (vf t p) 1000000000000000 := by
  cases p <;> simp [okb, kok, and_assoc]
theorem okb.bv {t : Int} {p : Py} (h : okb t p) : Bv (vf t p) 1000000000000000 := ((okb_iff p).1 h).2
theorem Bv.up {F : Int → Int} {B C : Nat} (h : Bv F B) (e : B ≤ C) : Bv F C := fun x a b => Nat.le_trans (h x a b) e
def cnt : Py → Nat
  | .times _ p => cnt p
  | .over p _ _ => 4 * cnt p + 6
  | .iff _ _ p q => cnt p + 2 * cnt q + 2
  | .bin _ p q => 2 * (cnt p + cnt q)
  | _ => 1
theorem cnt_pos : ∀ p, 1 ≤ cnt p
  | .loss => Nat.le_refl _
  | .sum => Nat.le_refl _
  | .num _ => Nat.le_refl _
  | .times _ p => cnt_pos p
  | .over p _ _ => by have := cnt_pos p; simp only [cnt]; omega
  | .iff _ _ p q => by have := cnt_pos p; simp only [cnt]; omega
  | .bin _ p q => by have := cnt_pos p; simp only [cnt]; omega
theorem kok.bv {t : Int} (ht : 0 ≤ t ∧ t ≤ 1000000000000) : ∀ {p : Py}, Good p → kok t p → Bv (vf t p) (2 ^ 80)
  | .loss, g, h => fun x a b => by show x.natAbs ≤ _; omega
  | .sum, g, h => fun x a b => by show t.natAbs ≤ _; omega
  | .num k, g, h => fun x a b => by have g' : 0 ≤ k ∧ k ≤ 1000000000000 := g; show k.natAbs ≤ _; omega
  | .times k p, g, h => fun x a b => by
    have g' : 0 ≤ k ∧ k ≤ 1000 ∧ Good p := g
    have := okb.bv h x a b
    show (k * val t x p).natAbs ≤ _
    rw [Int.natAbs_mul]
    exact Nat.le_trans (Nat.mul_le_mul (show k.natAbs ≤ 1000 by omega) this) (by decide)
  | .over p c d, g, h => fun x a b => by
    have g' : 0 ≤ c ∧ c ≤ 1000000000000 ∧ 0 ≤ d ∧ d ≤ 1000000000000 ∧ Good p := g
    have h1 := okb.bv h x a b
    have h1' : (val t x p).natAbs ≤ 1000000000000000 := h1
    show (val t x (.over p c d)).natAbs ≤ _
    simp only [val]
    split <;> split <;> omega
  | .iff c d p q, g, h => fun x a b => by
    have h1 : (val t x p).natAbs ≤ 1000000000000000 := okb.bv h.1 x a b
    have h2 : (val t x q).natAbs ≤ 1000000000000000 := okb.bv h.2 x a b
    show (val t x (.iff c d p q)).natAbs ≤ _
    simp only [val]
    split <;> omega
  | .bin o p q, g, h => fun x a b => by
    have h1 : (val t x p).natAbs ≤ 1000000000000000 := okb.bv h.1 x a b
    have h2 : (val t x q).natAbs ≤ 1000000000000000 := okb.bv h.2 x a b
    show (val t x (.bin o p q)).natAbs ≤ _
    simp only [val]
    cases o <;> simp only [Op.ap] <;> (try split) <;> omega
theorem ln_const (v : Int) : Ln [⟨0, 1000000000000, 0, v⟩] (fun _ => v) :=
  ⟨rep_one.2 ⟨rfl, (by decide : (0 : Int) ≤ 1000000000000), rfl, fun x _ _ => by simp⟩, fun q hq => by rw [List.mem_singleton.1 hq]; intro _; rfl⟩
theorem ln_id : Ln [⟨0, 1000000000000, 1, 0⟩] (fun x => x) :=
  ⟨rep_one.2 ⟨rfl, (by decide : (0 : Int) ≤ 1000000000000), rfl, fun x _ _ => by simp⟩, fun q hq => by rw [List.mem_singleton.1 hq]; intro e; exact absurd (show (1000000000000 : Int) = 0 from e) (by decide)⟩
theorem constant_ (v : Int) : F_constant [.d (.int v)] [] = .ok (.own (.lst ([⟨0, 1000000000000, 0, v⟩].map eR))) [] := by
  simp [F_constant, B_constant, eR]
theorem itself_ : F_itself [] [] = .ok (.own (.lst ([⟨0, 1000000000000, 1, 0⟩].map eR))) [] := by
  simp [F_itself, B_itself, eR]
theorem const_bv {v : Int} (h : v.natAbs ≤ 2 ^ 80) : Bv (fun _ => v) (2 ^ 80) := fun _ _ _ => h
/-- what a walk over a tree's parts finds -/
def Fnd (t : Int) (p : Py) (r : Res Rv) : Prop := (kok t p ∧ ∃ rs, (r = .ok (.own (.lst (rs.map eR))) [] ∨ r = .ok (.d (.list (rs.map eR))) []) ∧ Ln rs (vf t p) ∧ rs.length ≤ cnt p) ∨ (¬ kok t p ∧ r = .ok (.d .none) [])
def Lnf (t : Int) (p : Py) (r : Res Rv) : Prop := (okb t p ∧ ∃ rs, r = .ok (.d (.list (rs.map eR))) [] ∧ Ln rs (vf t p) ∧ rs.length ≤ cnt p) ∨ (¬ okb t p ∧ r = .ok (.d .none) [])
theorem in_bounds {F : Int → Int} {rs : List Rw} (h : Ln rs F) (hB : Bv F (2 ^ 80)) (hl : rs.length < 1000000) : ∃ m M, F_least_value [.d (.list (rs.map eR))] [] = .ok (.d (.int m)) [] ∧ F_greatest_value [.d (.list (rs.map eR))] [] = .ok (.d (.int M)) [] ∧ (Bv F 1000000000000000 ↔ ¬ m < -1000000000000000 ∧ ¬ 1000000000000000 < M) := by
  obtain ⟨m, e1, a1, x1, b1, c1, d1⟩ := least_value_ h hB hl
  obtain ⟨M, e2, a2, x2, b2, c2, d2⟩ := greatest_value_ h hB hl
  refine ⟨m, M, e1, e2, ?_⟩
  constructor
  · intro k
    have k1 := k x1 b1 c1
    have k2 := k x2 b2 c2
    omega
  · rintro ⟨p, q⟩ x a b
    have := a1 x a b
    have := a2 x a b
    omega
/-- line_of of what its parts find -/
theorem line_tail {t : Int} {p : Py} {rs : List Rw} (a b : S) (hk : kok t p) (h : Ln rs (vf t p)) (hB : Bv (vf t p) (2 ^ 80)) (hl : rs.length ≤ cnt p) (hc : cnt p < 100000) : ∃ o, (gSeq (sIf (tOrM (op1 isnD (eV 2)) (tOrM (op2 ltD (eFrz (eCall F_least_value (aCons (eV 2) aNil))) (eNeg (eC (.int (1000000000000000))))) (op2 gtD (eFrz (eCall F_greatest_value (aCons (eV 2) aNil))) (eC (.int (1000000000000000)))))) (sRet (eRv (eC .none))) gNil) (sRet (eRv (eV 2)))) [a, b, .d (.list (rs.map eR))] [] = .rt o [] ∧ fin 0 (.rt o []) = .ok o [] ∧ Lnf t p (.ok o []) := by
  obtain ⟨m, M, e1, e2, e3⟩ := in_bounds h hB (by omega)
  generalize hL : rs.map eR = L at *
  by_cases c : Bv (vf t p) 1000000000000000
  · obtain ⟨c1, c2⟩ := e3.1 c
    refine ⟨.d (.list L), ?_, rfl, .inl ⟨(okb_iff p).2 ⟨hk, c⟩, rs, by rw [hL], h, hl⟩⟩
    simp [e1, e2, c1, c2]
  · refine ⟨.d .none, ?_, rfl, .inr ⟨fun z => c z.bv, rfl⟩⟩
    by_cases c1 : m < -1000000000000000
    · simp [e1, c1]
    · have c2 : 1000000000000000 < M := by
        by_cases z : 1000000000000000 < M
        · exact z
        · exact absurd (e3.2 ⟨c1, z⟩) c
      simp [e1, e2, c1, c2]
theorem line_none (a b : S) : (gSeq (sIf (tOrM (op1 isnD (eV 2)) (tOrM (op2 ltD (eFrz (eCall F_least_value (aCons (eV 2) aNil))) (eNeg (eC (.int (1000000000000000))))) (op2 gtD (eFrz (eCall F_greatest_value (aCons (eV 2) aNil))) (eC (.int (1000000000000000)))))) (sRet (eRv (eC .none))) gNil) (sRet (eRv (eV 2)))) [a, b, .d .none] [] = .rt (.d .none) [] := by simp
theorem B15 {F : Int → Int} (h : Bv F 1000000000000000) : Bv F (2 ^ 80) := h.up (by decide)
abbrev lineH (n : Nat) : G := (sIf (tT (eIsa "str" (eV 0))) (sSet 2 (eIf (op2 eqD (eV 0) (eC (.str "loss"))) (eFrz (eCall F_itself aNil)) (eFrz (eCall F_constant (aCons (eV 1) aNil))))) (sIf (tT (eIsa "int" (eV 0))) (sSet 2 (eFrz (eCall F_constant (aCons (eV 0) aNil)))) (sSet 2 (eFrz (eCall (F_line_of_parts n) (aCons (eV 0) (aCons (eV 1) aNil)))))))
theorem line_done {t : Int} (ht : 0 ≤ t ∧ t ≤ 1000000000000) {p : Py} {rs : List Rw} (n : Nat) (g : Good p) (hc : cnt p < 100000) (hk : kok t p) (h : Ln rs (vf t p)) (hl : rs.length ≤ cnt p) (e : lineH n [.d (enc p), .d (.int t), .no] [] = .nx [.d (enc p), .d (.int t), .d (.list (rs.map eR))] []) : Lnf t p (F_line_of (n + 1) [.d (enc p), .d (.int t)] []) := by
  obtain ⟨o, e1, e2, l⟩ := line_tail (p := p) (.d (enc p)) (.d (.int t)) hk h (kok.bv ht g hk) hl hc
  have q : F_line_of (n + 1) [.d (enc p), .d (.int t)] [] = .ok o [] := by
    unfold F_line_of
    rw [runG_]
    exact (congrArg (fin 0) (gSeq_of e e1)).trans e2
  rw [q]; exact l
theorem line_tuple {t : Int} (ht : 0 ≤ t ∧ t ≤ 1000000000000) {p : Py} {xs : List D} (n : Nat) (g : Good p) (hc : cnt p < 100000) (hx : enc p = .tuple xs) (f : Fnd t p (F_line_of_parts n [.d (enc p), .d (.int t)] [])) : Lnf t p (F_line_of (n + 1) [.d (enc p), .d (.int t)] []) := by
  rcases f with ⟨hk, rs, e, h, hl⟩ | ⟨hk, e⟩
  · refine line_done ht n g hc hk h hl ?_
    rw [hx] at e ⊢
    generalize rs.map eR = L at *
    rcases e with e | e <;> simp [e]
  · refine .inr ⟨fun z => hk ((okb_iff p).1 z).1, ?_⟩
    rw [hx] at e ⊢
    have s1 : lineH n [.d (.tuple xs), .d (.int t), .no] [] = .nx [.d (.tuple xs), .d (.int t), .d .none] [] := by simp [e]
    unfold F_line_of
    rw [runG_]
    exact (congrArg (fin 0) (gSeq_of s1 (line_none _ _))).trans rfl
theorem line_of_ (t : Int) (ht : 0 ≤ t ∧ t ≤ 1000000000000) : ∀ (p : Py) (n : Nat), Good p → 2 * dep p < n → cnt p < 100000 → Lnf t p (F_line_of n [.d (enc p), .d (.int t)] [])
  | p, 0, _, h, _ => by omega
  | .loss, n + 1, g, hd, hc => line_done ht n g hc trivial ln_id (Nat.le_refl _) (by simp [enc, itself_])
  | .sum, n + 1, g, hd, hc => line_done ht n g hc trivial (ln_const t) (Nat.le_refl _) (by simp [enc, constant_])
  | .num k, n + 1, g, hd, hc => line_done ht n g hc trivial (ln_const k) (Nat.le_refl _) (by simp [enc, constant_])
  | .times k p, n + 1, g, hd, hc => by
    have g' : 0 ≤ k ∧ k ≤ 1000 ∧ Good p := g
    have hc' : cnt p < 100000 := hc
    simp only [dep] at hd
    obtain ⟨m, rfl⟩ : ∃ m, n = m + 1 := ⟨n - 1, by omega⟩
    refine line_tuple ht _ g hc rfl ?_
    rcases line_of_ t ht p m g'.2.2 (by omega) hc' with ⟨hk, rs, e, h, hl⟩ | ⟨hk, e⟩
    · obtain ⟨rs', e', h', hl'⟩ := multiplied_ (k := k) h hk.bv (by decide) (Nat.le_trans (show k.natAbs ≤ 1000 by omega) (by decide)) (by omega)
      refine .inl ⟨hk, rs', ?_, h'.congr fun x _ _ => by show val t x p * k = k * val t x p; exact Int.mul_comm _ _, by show _ ≤ cnt p; omega⟩
      unfold F_line_of_parts B_line_of_parts
      rw [runG_]
      generalize rs.map eR = L at *
      simp [enc, e, e']
    · refine .inr ⟨hk, ?_⟩
      unfold F_line_of_parts B_line_of_parts
      rw [runG_]
      simp [enc, e]
  | .over p a b, n + 1, g, hd, hc => by
    have g' : 0 ≤ a ∧ a ≤ 1000000000000 ∧ 0 ≤ b ∧ b ≤ 1000000000000 ∧ Good p := g
    have hc' : 4 * cnt p + 6 < 100000 := hc
    simp only [dep] at hd
    obtain ⟨m, rfl⟩ : ∃ m, n = m + 1 := ⟨n - 1, by omega⟩
    refine line_tuple ht _ g hc rfl ?_
    rcases line_of_ t ht p m g'.2.2.2.2 (by omega) (by omega) with ⟨hk, rs, e, h, hl⟩ | ⟨hk, e⟩
    · obtain ⟨r1, e1, h1, l1⟩ := added_ (sg := -1) (by decide) h (ln_const b) (B15 hk.bv) (const_bv (Nat.le_trans (show b.natAbs ≤ 1000000000000 by omega) (by decide))) (by simp; omega)
      have bv1 : Bv (fun x => vf t p x + -1 * b) (2 ^ 80) := fun x c d => by
        have := hk.bv x c d
        show (vf t p x + -1 * b).natAbs ≤ _
        omega
      simp at l1
      obtain ⟨r2, e2, h2, l2⟩ := greater_ h1 (ln_const 0) bv1 (const_bv (by decide)) (by simp; omega)
      have bv2 : Bv (mxF (fun x => vf t p x + -1 * b) fun _ => 0) (2 ^ 80) := fun x c d => by
        have := bv1 x c d
        unfold mxF
        split
        · exact this
        · show (0 : Int).natAbs ≤ 2 ^ 80
          decide
      simp at l2
      obtain ⟨r3, e3, h3, l3⟩ := lesser_ h2 (ln_const a) bv2 (const_bv (Nat.le_trans (show a.natAbs ≤ 1000000000000 by omega) (by decide))) (by simp; omega)
      simp at l3
      refine .inl ⟨hk, r3, ?_, h3.congr fun x _ _ => ?_, by show _ ≤ 4 * cnt p + 6; omega⟩
      · unfold F_line_of_parts B_line_of_parts
        rw [runG_]
        have c1 := constant_ b
        have c2 := constant_ 0
        have c3 := constant_ a
        generalize ([⟨0, 1000000000000, 0, b⟩] : List Rw).map eR = C1 at *
        generalize ([⟨0, 1000000000000, 0, 0⟩] : List Rw).map eR = C2 at *
        generalize ([⟨0, 1000000000000, 0, a⟩] : List Rw).map eR = C3 at *
        generalize rs.map eR = L at *
        generalize r1.map eR = L1 at *
        generalize r2.map eR = L2 at *
        simp [enc, e, c1, c2, c3, e1, e2, e3]
      · show mn (mxF (fun x => val t x p + -1 * b) fun _ => 0) (fun _ => a) x = val t x (.over p a b)
        unfold mn mxF
        simp only [val]
        split <;> split <;> split <;> (try split) <;> omega
    · refine .inr ⟨hk, ?_⟩
      unfold F_line_of_parts B_line_of_parts
      rw [runG_]
      simp [enc, e]
  | .iff a b p q, n + 1, g, hd, hc => by
    have g' : 0 ≤ a ∧ a ≤ b ∧ b ≤ 1000000000000 ∧ Good p ∧ Good q := g
    have hc' : cnt p + 2 * cnt q + 2 < 100000 := hc
    simp only [dep] at hd
    obtain ⟨m, rfl⟩ : ∃ m, n = m + 1 := ⟨n - 1, by omega⟩
    refine line_tuple ht _ g hc rfl ?_
    rcases line_of_ t ht p m g'.2.2.2.1 (by omega) (by omega) with ⟨hk, rs, e, h, hl⟩ | ⟨hk, e⟩
    · rcases line_of_ t ht q m g'.2.2.2.2 (by omega) (by omega) with ⟨hk2, rs2, e2, h2, hl2⟩ | ⟨hk2, e2⟩
      · obtain ⟨r3, e3, h3, l3⟩ := chosen_ g'.1 g'.2.1 g'.2.2.1 h h2 (B15 hk.bv) (B15 hk2.bv) (by omega)
        refine .inl ⟨⟨hk, hk2⟩, r3, ?_, h3.congr fun x _ _ => ?_, by show _ ≤ cnt p + 2 * cnt q + 2; omega⟩
        · unfold F_line_of_parts B_line_of_parts
          rw [runG_]
          generalize rs.map eR = L at *
          generalize rs2.map eR = L2 at *
          simp [enc, e, e2, e3]
        · show ifF a b (vf t p) (vf t q) x = val t x (.iff a b p q)
          rfl
      · refine .inr ⟨fun z => hk2 z.2, ?_⟩
        unfold F_line_of_parts B_line_of_parts
        rw [runG_]
        generalize rs.map eR = L at *
        simp [enc, e, e2]
    · refine .inr ⟨fun z => hk z.1, ?_⟩
      unfold F_line_of_parts B_line_of_parts
      rw [runG_]
      rcases line_of_ t ht q m g'.2.2.2.2 (by omega) (by omega) with ⟨hk2, rs2, e2, h2, hl2⟩ | ⟨hk2, e2⟩
      · generalize rs2.map eR = L2 at *
        simp [enc, e, e2]
      · simp [enc, e, e2]
  | .bin o p q, n + 1, g, hd, hc => by
    have g' : Good p ∧ Good q := g
    have hc' : 2 * (cnt p + cnt q) < 100000 := hc
    have c1 := cnt_pos p
    have c2 := cnt_pos q
    simp only [dep] at hd
    obtain ⟨m, rfl⟩ : ∃ m, n = m + 1 := ⟨n - 1, by omega⟩
    refine line_tuple ht _ g hc rfl ?_
    rcases line_of_ t ht p m g'.1 (by omega) (by omega) with ⟨hk, rs, e, h, hl⟩ | ⟨hk, e⟩
    · rcases line_of_ t ht q m g'.2 (by omega) (by omega) with ⟨hk2, rs2, e2, h2, hl2⟩ | ⟨hk2, e2⟩
      · have hll : rs.length + rs2.length < 400000 := by omega
        cases o with
        | plus =>
          obtain ⟨r3, e3, h3, l3⟩ := added_ (sg := 1) (by decide) h h2 (B15 hk.bv) (B15 hk2.bv) (by omega)
          refine .inl ⟨⟨hk, hk2⟩, r3, ?_, h3.congr fun x _ _ => by show val t x p + 1 * val t x q = val t x p + val t x q; omega, by show _ ≤ 2 * (cnt p + cnt q); omega⟩
          unfold F_line_of_parts B_line_of_parts
          rw [runG_]
          generalize rs.map eR = L at *
          generalize rs2.map eR = L2 at *
          simp [enc, Op.nm, e, e2, e3]
        | minus =>
          obtain ⟨r3, e3, h3, l3⟩ := added_ (sg := -1) (by decide) h h2 (B15 hk.bv) (B15 hk2.bv) (by omega)
          refine .inl ⟨⟨hk, hk2⟩, r3, ?_, h3.congr fun x _ _ => by show val t x p + -1 * val t x q = val t x p - val t x q; omega, by show _ ≤ 2 * (cnt p + cnt q); omega⟩
          unfold F_line_of_parts B_line_of_parts
          rw [runG_]
          generalize rs.map eR = L at *
          generalize rs2.map eR = L2 at *
          simp [enc, Op.nm, e, e2, e3]
        | min =>
          obtain ⟨r3, e3, h3, l3⟩ := lesser_ h h2 (B15 hk.bv) (B15 hk2.bv) hll
          refine .inl ⟨⟨hk, hk2⟩, r3, ?_, h3.congr fun x _ _ => ?_, by show _ ≤ 2 * (cnt p + cnt q); omega⟩
          · unfold F_line_of_parts B_line_of_parts
            rw [runG_]
            generalize rs.map eR = L at *
            generalize rs2.map eR = L2 at *
            simp [enc, Op.nm, e, e2, e3]
          · show (if val t x p ≤ val t x q then val t x p else val t x q) = if val t x q < val t x p then val t x q else val t x p
            split <;> split <;> omega
        | max =>
          obtain ⟨r3, e3, h3, l3⟩ := greater_ h h2 (B15 hk.bv) (B15 hk2.bv) hll
          refine .inl ⟨⟨hk, hk2⟩, r3, ?_, h3.congr fun x _ _ => ?_, by show _ ≤ 2 * (cnt p + cnt q); omega⟩
          · unfold F_line_of_parts B_line_of_parts
            rw [runG_]
            generalize rs.map eR = L at *
            generalize rs2.map eR = L2 at *
            simp [enc, Op.nm, e, e2, e3]
          · show (if val t x q ≤ val t x p then val t x p else val t x q) = if val t x q > val t x p then val t x q else val t x p
            split <;> split <;> omega
      · refine .inr ⟨fun z => hk2 z.2, ?_⟩
        unfold F_line_of_parts B_line_of_parts
        rw [runG_]
        generalize rs.map eR = L at *
        cases o <;> simp [enc, Op.nm, e, e2]
    · refine .inr ⟨fun z => hk z.1, ?_⟩
      unfold F_line_of_parts B_line_of_parts
      rw [runG_]
      rcases line_of_ t ht q m g'.2 (by omega) (by omega) with ⟨hk2, rs2, e2, h2, hl2⟩ | ⟨hk2, e2⟩
      · generalize rs2.map eR = L2 at *
        cases o <;> simp [enc, Op.nm, e, e2]
      · cases o <;> simp [enc, Op.nm, e, e2]
theorem kysD_int : ∀ xs : List Int, kysD (xs.map .int) = some (xs.map Sum.inl)
  | [] => rfl
  | x :: xs => by
    show (match kyD (.int x), kysD (xs.map .int) with
      | some k, some ks => some (k :: ks)
      | _, _ => none) = _
    rw [kysD_int xs]; rfl
theorem fm_int : ∀ (xs l : List Int), l.Nodup → ∃ us : List Int, (xs.map Sum.inl).foldl dd1 (l.map Sum.inl) = us.map Sum.inl ∧ us.Nodup ∧ (∀ y, y ∈ us ↔ y ∈ l ∨ y ∈ xs) ∧ us.length ≤ l.length + xs.length
  | [], l, h => ⟨l, rfl, h, by simp, Nat.le_refl _⟩
  | x :: xs, l, h => by
    have hm : mK (l.map Sum.inl) (Sum.inl x) = true ↔ x ∈ l := by rw [mK_iff]; simp
    by_cases c : x ∈ l
    · obtain ⟨us, e, n, m, q⟩ := fm_int xs l h
      refine ⟨us, ?_, n, fun y => ?_, by rw [List.length_cons]; omega⟩
      · rw [List.map_cons, List.foldl_cons]
        unfold dd1
        rw [if_pos (hm.2 c)]
        exact e
      · rw [m, List.mem_cons]
        exact ⟨fun z => z.elim .inl fun q => .inr (.inr q), fun z => z.elim .inl fun q => q.elim (fun e => .inl (e ▸ c)) .inr⟩
    · obtain ⟨us, e, n, m, q⟩ := fm_int xs (l ++ [x]) ((List.perm_append_singleton x l).nodup_iff.2 (List.nodup_cons.2 ⟨c, h⟩))
      refine ⟨us, ?_, n, fun y => ?_, by rw [List.length_append, List.length_singleton] at q; rw [List.length_cons]; omega⟩
      · rw [List.map_cons, List.foldl_cons]
        have e1 : dd1 (l.map Sum.inl) (Sum.inl x) = (l ++ [x]).map Sum.inl := by
          unfold dd1
          rw [if_neg fun z => c (hm.1 z)]; simp
        rw [e1]; exact e
      · rw [m, List.mem_append, List.mem_singleton, List.mem_cons, or_assoc]
theorem sortKI_map : ∀ ys : List Int, sortKI (ys.map Sum.inl) = some ys
  | [] => rfl
  | y :: ys => by
    show (sortKI (ys.map Sum.inl)).map (y :: ·) = _
    rw [sortKI_map ys]; rfl
theorem srt_int {ns : List Int} (h : ns.length < 4000) : ∃ zs : List Int, srtSD (ns.map .int) = some (.list (zs.map .int)) ∧ zs.Pairwise (· < ·) ∧ (∀ y, y ∈ zs ↔ y ∈ ns) ∧ zs.length ≤ ns.length := by
  obtain ⟨us, e, n, m, q⟩ := fm_int ns [] List.nodup_nil
  have pm := PySem.W.sortI_perm us
  refine ⟨PySem.W.sortI us, ?_, ?_, fun y => ?_, ?_⟩
  · have hl : (ns.map (Sum.inl : Int → Key)).length < 4000 := by simpa using h
    have e' : fmK (ns.map Sum.inl) = us.map Sum.inl := e
    unfold srtSD
    rw [kysD_int]
    simp only [if_pos hl]
    rw [e']
    unfold sortK
    rw [sortKI_map]; rfl
  · have r := PySem.W.sortI_rises us
    have nd : (PySem.W.sortI us).Nodup := pm.nodup_iff.2 n
    refine (List.pairwise_and_iff.2 ⟨r, nd⟩).imp fun {a b} h => ?_
    have := h.2
    omega
  · rw [pm.mem_iff, m]; simp
  · rw [pm.length_eq]; simpa using q
/-- rows of the law: a start, a value, a slope -/
structure Lr where
  s : Int
  a : Int
  p : Int
def eL (r : Lr) : D := .tuple [.int r.s, .int r.a, .int r.p]
def tR : List Lr → Int → List Rw
  | [], _ => []
  | [r], z => [⟨r.s, z, r.p, r.a⟩]
  | r :: q :: t, z => ⟨r.s, q.s - 1, r.p, r.a⟩ :: tR (q :: t) z
theorem tR_snoc : ∀ (rs : List Lr) (r : Lr) (z : Int), tR (rs ++ [r]) z = tR rs (r.s - 1) ++ [⟨r.s, z, r.p, r.a⟩]
  | [], r, z => rfl
  | [q], r, z => rfl
  | q :: q' :: t, r, z => by
    have ih := tR_snoc (q' :: t) r z
    show _ :: tR ((q' :: t) ++ [r]) z = _
    rw [ih]; rfl
def LRep (rs : List Lr) (x0 z : Int) (F : Int → Int) : Prop := Rep (tR rs z) x0 z F
theorem lrep_snoc {F : Int → Int} {rs : List Lr} {r : Lr} {x0 z : Int} : LRep (rs ++ [r]) x0 z F ↔ LRep rs x0 (r.s - 1) F ∧ r.s ≤ z ∧ ∀ x, r.s ≤ x → x ≤ z → F x = r.a + r.p * (x - r.s) := by
  unfold LRep
  rw [tR_snoc, rep_app]
  constructor
  · rintro ⟨c, h1, h2⟩
    obtain ⟨e1, e2, e3, e4⟩ := rep_one.1 h2
    have e1' : r.s = c + 1 := e1
    rw [show r.s - 1 = c by omega]
    refine ⟨?_, e2, e4⟩
    rw [show r.s - 1 = c by omega] at h1
    exact h1
  · rintro ⟨h1, h2, h3⟩
    exact ⟨r.s - 1, h1, rep_one.2 ⟨by show r.s = r.s - 1 + 1; omega, h2, rfl, h3⟩⟩
theorem tR_len : ∀ (rs : List Lr) (z : Int), (tR rs z).length = rs.length
  | [], _ => rfl
  | [_], _ => rfl
  | _ :: q :: t, z => by
    show (tR (q :: t) z).length + 1 = _
    rw [tR_len (q :: t) z]; rfl
/-- the row at a place -/
theorem law_at_loop {F : Int → Int} {x0 : Int} (v : S) (y : Int) : ∀ (rv : List Lr) (z : Int) (s2 s3 s4 : S), LRep rv.reverse x0 z F → x0 ≤ y → y ≤ z → (∀ r ∈ rv, r.p.natAbs < 2 ^ 200 ∧ (y - r.s).natAbs < 2 ^ 200) →
    ∃ r, r ∈ tR rv.reverse z ∧ r.f ≤ y ∧ y ≤ r.l ∧ (∃ q ∈ rv, q.p = r.s) ∧ gFor (gtT (gtsCons (gtN 2) (gtsCons (gtN 3) (gtsCons (gtN 4) gtsNil)))) (sIf (op2 leD (eV 2) (eV 1)) (sRet (eRv (eTup (aCons (eBin addD (eV 3) (eBin mulD (eV 4) (eBin subD (eV 1) (eV 2)))) (aCons (eV 4) aNil))))) gNil) (rv.map eL) [v, .d (.int y), s2, s3, s4] [] = .rt (.d (.tuple [.int (F y), .int r.s])) []
  | [], z, s2, s3, s4, h, a, b, _ => by have h' : x0 = z + 1 := h; omega
  | r :: rv, z, s2, s3, s4, h, a, b, k => by
    rw [List.reverse_cons] at h
    have h0 := lrep_snoc.1 h
    obtain ⟨h1, h2, h3⟩ := h0
    obtain ⟨k1, k2⟩ := k r (by simp)
    have e3 : eL r = .tuple [.int r.s, .int r.a, .int r.p] := rfl
    have m1 : mulD (.int r.p) (.int (y - r.s)) = some (.int (r.p * (y - r.s))) := mulB k1 k2
    rw [List.map_cons, gFor_cons, e3, List.reverse_cons, tR_snoc]
    by_cases c : r.s ≤ y
    · refine ⟨⟨r.s, z, r.p, r.a⟩, by simp, c, b, ⟨r, by simp, rfl⟩, ?_⟩
      rw [h3 y c b]
      simp [c, m1, -mulD_int]
    · obtain ⟨q, q1, q2, q3, ⟨w, q4, q5⟩, q6⟩ := law_at_loop v y rv (r.s - 1) (.d (.int r.s)) (.d (.int r.a)) (.d (.int r.p)) h1 a (by omega) fun x hx => k x (by simp [hx])
      refine ⟨q, by simp [q1], q2, q3, ⟨w, by simp [q4], q5⟩, ?_⟩
      simp only [gtT_, gtsCons_, gtN_, gtsNil_, Option.bind_some, List.set_cons_succ, List.set_cons_zero]
      have st : (sIf (op2 leD (eV 2) (eV 1)) (sRet (eRv (eTup (aCons (eBin addD (eV 3) (eBin mulD (eV 4) (eBin subD (eV 1) (eV 2)))) (aCons (eV 4) aNil))))) gNil) [v, .d (.int y), .d (.int r.s), .d (.int r.a), .d (.int r.p)] [] = .nx [v, .d (.int y), .d (.int r.s), .d (.int r.a), .d (.int r.p)] [] := by simp [c]
      rw [st]
      exact q6
theorem revG_list (xs : List D) : revG [.list xs] = if xs.length ≤ sizeLine then some (.list xs.reverse) else none := rfl
theorem tR_from : ∀ (rs : List Lr) (z : Int), ∀ r ∈ rs, ∃ q ∈ tR rs z, q.f = r.s
  | [r], z, x, h => by rw [List.mem_singleton.1 h]; exact ⟨_, List.mem_singleton.2 rfl, rfl⟩
  | r :: q :: t, z, x, h => by
    rcases List.mem_cons.1 h with rfl | h
    · exact ⟨⟨x.s, q.s - 1, x.p, x.a⟩, List.mem_cons_self .., rfl⟩
    · obtain ⟨y, m, e⟩ := tR_from (q :: t) z x h
      exact ⟨y, List.mem_cons_of_mem _ m, e⟩
theorem tR_next : ∀ (rs : List Lr) (z : Int), ∀ w ∈ tR rs z, w.l < z → ∃ q ∈ rs, q.s = w.l + 1
  | [r], z, x, h, l => by rw [List.mem_singleton.1 h] at l; exact absurd l (Int.lt_irrefl _)
  | r :: q :: t, z, x, h, l => by
    rcases List.mem_cons.1 h with rfl | h
    · exact ⟨q, by simp, by show q.s = q.s - 1 + 1; omega⟩
    · obtain ⟨y, m, e⟩ := tR_next (q :: t) z x h l
      exact ⟨y, List.mem_cons_of_mem _ m, e⟩
structure LL (rs : List Lr) (F : Int → Int) (B : Nat) : Prop where
  r : LRep rs 0 1000000000000 F
  p : ∀ r ∈ rs, r.p.natAbs ≤ B
theorem LL.in {rs : List Lr} {F : Int → Int} {B : Nat} (h : LL rs F B) : ∀ r ∈ rs, 0 ≤ r.s ∧ r.s ≤ 1000000000000 := fun r hr => by
  obtain ⟨q, m, e⟩ := tR_from rs 1000000000000 r hr
  obtain ⟨a, b, c, _⟩ := Rep.mem h.r q m
  omega
theorem law_at_ {rs : List Lr} {F : Int → Int} {B : Nat} (h : LL rs F B) (hB : B ≤ 2 ^ 150) (hl : rs.length < 1000000) {y : Int} (y0 : 0 ≤ y) (y1 : y ≤ 1000000000000) :
    ∃ r, r ∈ tR rs 1000000000000 ∧ r.f ≤ y ∧ y ≤ r.l ∧ r.s.natAbs ≤ B ∧ F__law_at [.d (.list (rs.map eL)), .d (.int y)] [] = .ok (.d (.tuple [.int (F y), .int r.s])) [] := by
  have hr : LRep rs.reverse.reverse 0 1000000000000 F := by rw [List.reverse_reverse]; exact h.r
  obtain ⟨r, m, a, b, ⟨q, q1, q2⟩, e⟩ := law_at_loop (.d (.list (rs.map eL))) y rs.reverse 1000000000000 .no .no .no hr y0 y1 (fun q hq => by
    have hq' := List.mem_reverse.1 hq
    have := h.in q hq'
    exact ⟨Nat.lt_of_le_of_lt (Nat.le_trans (h.p q hq') hB) (by decide), Nat.lt_of_le_of_lt (m := 1000000000000) (by omega) (by decide)⟩)
  rw [List.reverse_reverse] at m
  refine ⟨r, m, a, b, by rw [← q2]; exact h.p q (List.mem_reverse.1 q1), ?_⟩
  have z : (rs.map eL).length ≤ sizeLine := size_ok (by rw [List.length_map]; omega)
  have rv : revG [.list (rs.map eL)] = some (.list (rs.reverse.map eL)) := by
    rw [revG_list, if_pos z, List.map_reverse]
  have it : iAnyM (eCd revG (aCons (eV 0) aNil)) [.d (.list (rs.map eL)), .d (.int y), .no, .no, .no] [] = .ok (rs.reverse.map eL) [] := by
    generalize rs.map eL = L at *
    generalize rs.reverse.map eL = L2 at *
    simp [rv]
  unfold F__law_at B__law_at
  rw [runG_]
  have f := sFor_of it e
  have g : ∀ k : G, gSeq (sFor (gtT (gtsCons (gtN 2) (gtsCons (gtN 3) (gtsCons (gtN 4) gtsNil)))) (iAnyM (eCd revG (aCons (eV 0) aNil))) (sIf (op2 leD (eV 2) (eV 1)) (sRet (eRv (eTup (aCons (eBin addD (eV 3) (eBin mulD (eV 4) (eBin subD (eV 1) (eV 2)))) (aCons (eV 4) aNil))))) gNil)) k [.d (.list (rs.map eL)), .d (.int y), .no, .no, .no] [] = .rt (.d (.tuple [.int (F y), .int r.s])) [] := fun k => by rw [gSeq_, f]
  exact (congrArg (fin 0) (g _)).trans (by simp)
/-- where the piece that begins at s ends -/
def lastO : List Int → Int
  | [] => 1000000000000
  | n :: _ => n - 1
theorem law_at_aff {rs : List Lr} {F : Int → Int} {B : Nat} (h : LL rs F B) (hB : B ≤ 2 ^ 150) (hl : rs.length < 1000000) {z1 z2 : List Int} {s : Int} (hs : (z1 ++ s :: z2).Pairwise (· < ·)) (hm : ∀ r ∈ rs, r.s ≤ 1000000000000 → r.s ∈ z1 ++ s :: z2) (s0 : 0 ≤ s) (s1 : s ≤ 1000000000000) :
    ∃ p : Int, p.natAbs ≤ B ∧ F__law_at [.d (.list (rs.map eL)), .d (.int s)] [] = .ok (.d (.tuple [.int (F s), .int p])) [] ∧ ∀ x, s ≤ x → x ≤ lastO z2 → x ≤ 1000000000000 → F x = F s + p * (x - s) := by
  obtain ⟨r, m, a, b, c, e⟩ := law_at_ h hB hl s0 s1
  refine ⟨r.s, c, e, fun x x0 x1 x2 => ?_⟩
  obtain ⟨d1, d2, d3, d4⟩ := Rep.mem h.r r m
  have rl : x ≤ r.l := by
    by_cases l : r.l < 1000000000000
    · obtain ⟨q, q1, q2⟩ := tR_next rs _ r m l
      have := hm q q1 (by omega)
      rw [q2] at this
      obtain ⟨_, g1, g2⟩ := List.pairwise_append.1 hs
      rcases List.mem_append.1 this with z | z
      · have := g2 _ z s (by simp); omega
      · rcases List.mem_cons.1 z with z | z
        · omega
        · obtain ⟨_, g3⟩ := List.pairwise_cons.1 g1
          cases z2 with
          | nil => cases z
          | cons n t =>
            have x1' : x ≤ n - 1 := x1
            rcases List.mem_cons.1 z with z | z
            · omega
            · have := (List.pairwise_cons.1 g3).1 _ z; omega
    · omega
  rw [d4 x (by omega) rl, d4 s a b, Int.add_assoc, ← Int.mul_add]
  congr 2
  omega
def pk (t s last a p b q : Int) : List Lr := if 0 < t * (p - q) ∧ s + t * (b - a) / (t * (p - q)) + 1 ≤ last then [⟨s, a, p⟩, ⟨s + t * (b - a) / (t * (p - q)) + 1, b + q * (s + t * (b - a) / (t * (p - q)) + 1 - s), q⟩] else [⟨s, a, p⟩]
def pick (t s last a p b q : Int) : List Lr := if 0 < t * (a - b) ∨ (a = b ∧ 0 < t * (p - q)) then pk t s last b q a p else pk t s last a p b q
def jrow (o : Op) (s last a p b q : Int) : List Lr := match o with
  | .plus => [⟨s, a + b, p + q⟩]
  | .minus => [⟨s, a - b, p - q⟩]
  | .min => pick 1 s last a p b q
  | .max => pick (-1) s last a p b q
def tmin (t x y : Int) : Int := if t * x ≤ t * y then x else y
theorem pk_rep {H : Int → Int} {found : List Lr} {t s last a p b q : Int} (ht : t = 1 ∨ t = -1) (hs : s ≤ last) (c1 : t * (a - b) ≤ 0) (hH : ∀ x, s ≤ x → x ≤ last → H x = tmin t (a + p * (x - s)) (b + q * (x - s))) (hf : LRep found 0 (s - 1) H) : LRep (found ++ pk t s last a p b q) 0 last H := by
  have dist : ∀ y : Int, t * (a + p * y) - t * (b + q * y) = t * (p - q) * y - t * (b - a) := fun y => by
    rcases ht with rfl | rfl
    · rw [Int.one_mul, Int.one_mul, Int.one_mul, Int.one_mul, Int.sub_mul]; omega
    · rw [Int.neg_one_mul, Int.neg_one_mul, Int.neg_one_mul, Int.neg_one_mul, Int.neg_mul, Int.sub_mul]; omega
  have u0 : 0 ≤ t * (b - a) := by
    rcases ht with rfl | rfl <;> omega
  unfold pk
  by_cases v : 0 < t * (p - q)
  · have kk : ∀ y, (y ≤ t * (b - a) / (t * (p - q)) → tmin t (a + p * y) (b + q * y) = a + p * y) ∧ (t * (b - a) / (t * (p - q)) + 1 ≤ y → tmin t (a + p * y) (b + q * y) = b + q * y) := fun y => by
      have d := dist y
      constructor
      · intro h
        have := (Int.le_ediv_iff_mul_le v).1 h
        rw [Int.mul_comm y] at this
        unfold tmin
        rw [if_pos (by omega)]
      · intro h
        have := (Int.ediv_lt_iff_lt_mul v).1 (show t * (b - a) / (t * (p - q)) < y by omega)
        rw [Int.mul_comm y] at this
        unfold tmin
        rw [if_neg (by omega)]
    have k0 : 0 ≤ t * (b - a) / (t * (p - q)) := Int.ediv_nonneg u0 (by omega)
    generalize t * (b - a) / (t * (p - q)) = k at *
    by_cases w : s + k + 1 ≤ last
    · rw [if_pos ⟨v, w⟩]
      have e : found ++ [⟨s, a, p⟩, ⟨s + k + 1, b + q * (s + k + 1 - s), q⟩] = (found ++ [⟨s, a, p⟩]) ++ [(⟨s + k + 1, b + q * (s + k + 1 - s), q⟩ : Lr)] := by simp
      rw [e]
      refine lrep_snoc.2 ⟨lrep_snoc.2 ⟨hf, by show s ≤ s + k + 1 - 1; omega, fun x x0 x1 => ?_⟩, w, fun x x0 x1 => ?_⟩
      · have x0' : s ≤ x := x0
        have x1' : x ≤ s + k + 1 - 1 := x1
        rw [hH x x0' (by omega)]
        exact (kk (x - s)).1 (by omega)
      · have x0' : s + k + 1 ≤ x := x0
        rw [hH x (by omega) x1, (kk (x - s)).2 (by omega)]
        show _ = b + q * (s + k + 1 - s) + q * (x - (s + k + 1))
        rw [Int.add_assoc, ← Int.mul_add]
        congr 2
        omega
    · rw [if_neg fun z => w z.2]
      refine lrep_snoc.2 ⟨hf, hs, fun x x0 x1 => ?_⟩
      have x0' : s ≤ x := x0
      rw [hH x x0' x1]
      exact (kk (x - s)).1 (by omega)
  · rw [if_neg fun z => v z.1]
    refine lrep_snoc.2 ⟨hf, hs, fun x x0 x1 => ?_⟩
    have x0' : s ≤ x := x0
    rw [hH x x0' x1]
    have d := dist (x - s)
    have := Int.mul_le_mul_of_nonneg_right (show t * (p - q) ≤ 0 by omega) (show 0 ≤ x - s by omega)
    rw [Int.zero_mul] at this
    unfold tmin
    rw [if_pos (by omega)]
theorem pick_rep {H : Int → Int} {found : List Lr} {t s last a p b q : Int} (ht : t = 1 ∨ t = -1) (hs : s ≤ last) (hH : ∀ x, s ≤ x → x ≤ last → H x = tmin t (a + p * (x - s)) (b + q * (x - s))) (hf : LRep found 0 (s - 1) H) : LRep (found ++ pick t s last a p b q) 0 last H := by
  unfold pick
  split
  · rename_i c
    refine pk_rep ht hs ?_ (fun x x0 x1 => ?_) hf
    · rcases c with c | ⟨rfl, c⟩
      · rcases ht with rfl | rfl <;> omega
      · rw [Int.sub_self, Int.mul_zero]; exact Int.le_refl 0
    · rw [hH x x0 x1]
      unfold tmin
      generalize a + p * (x - s) = y1
      generalize b + q * (x - s) = y2
      rcases ht with rfl | rfl <;> split <;> split <;> omega
  · rename_i c
    exact pk_rep ht hs (by rcases ht with rfl | rfl <;> omega) hH hf
theorem jrow_rep {F G : Int → Int} {found : List Lr} {o : Op} {s last p q : Int} (hs : s ≤ last) (hF : ∀ x, s ≤ x → x ≤ last → F x = F s + p * (x - s)) (hG : ∀ x, s ≤ x → x ≤ last → G x = G s + q * (x - s)) (hf : LRep found 0 (s - 1) (fun x => o.ap (F x) (G x))) : LRep (found ++ jrow o s last (F s) p (G s) q) 0 last (fun x => o.ap (F x) (G x)) := by
  cases o with
  | plus =>
    refine lrep_snoc.2 ⟨hf, hs, fun x x0 x1 => ?_⟩
    show F x + G x = F s + G s + (p + q) * (x - s)
    rw [hF x x0 x1, hG x x0 x1, Int.add_mul]; omega
  | minus =>
    refine lrep_snoc.2 ⟨hf, hs, fun x x0 x1 => ?_⟩
    show F x - G x = F s - G s + (p - q) * (x - s)
    rw [hF x x0 x1, hG x x0 x1, Int.sub_mul]; omega
  | min =>
    refine pick_rep (.inl rfl) hs (fun x x0 x1 => ?_) hf
    show (if G x < F x then G x else F x) = _
    rw [hF x x0 x1, hG x x0 x1]
    unfold tmin
    split <;> split <;> omega
  | max =>
    refine pick_rep (.inr rfl) hs (fun x x0 x1 => ?_) hf
    show (if G x > F x then G x else F x) = _
    rw [hF x x0 x1, hG x x0 x1]
    unfold tmin
    split <;> split <;> omega
theorem pk_len (t s last a p b q : Int) : (pk t s last a p b q).length ≤ 2 := by unfold pk; split <;> simp
theorem jrow_len (o : Op) (s last a p b q : Int) : (jrow o s last a p b q).length ≤ 2 := by
  cases o
  · simp [jrow]
  · simp [jrow]
  · unfold jrow pick; dsimp only; split <;> exact pk_len ..
  · unfold jrow pick; dsimp only; split <;> exact pk_len ..
theorem pk_p {t s last a p b q : Int} {B : Nat} (h1 : p.natAbs ≤ B) (h2 : q.natAbs ≤ B) : ∀ r ∈ pk t s last a p b q, r.p.natAbs ≤ B := fun r hr => by
  unfold pk at hr
  split at hr <;> simp at hr
  · rcases hr with rfl | rfl
    · exact h1
    · exact h2
  · subst hr; exact h1
theorem jrow_p {o : Op} {s last a p b q : Int} {B : Nat} (h1 : p.natAbs ≤ B) (h2 : q.natAbs ≤ B) : ∀ r ∈ jrow o s last a p b q, r.p.natAbs ≤ 2 * B := fun r hr => by
  cases o with
  | plus => rw [List.mem_singleton.1 hr]; show (p + q).natAbs ≤ _; omega
  | minus => rw [List.mem_singleton.1 hr]; show (p - q).natAbs ≤ _; omega
  | min =>
    have : r.p.natAbs ≤ B := by
      unfold jrow pick at hr
      dsimp only at hr
      split at hr
      · exact pk_p h2 h1 r hr
      · exact pk_p h1 h2 r hr
    omega
  | max =>
    have : r.p.natAbs ≤ B := by
      unfold jrow pick at hr
      dsimp only at hr
      split at hr
      · exact pk_p h2 h1 r hr
      · exact pk_p h1 h2 r hr
    omega
abbrev pkT : G := (gSeq (sExp (eMt appG (eV 4) (aCons (eTup (aCons (eV 6) (aCons (eV 8) (aCons (eV 9) aNil)))) aNil)))
          (sIf (op2 gtD (eBin mulD (eV 12) (eBin subD (eV 9) (eV 11))) (eC (.int (0)))) (gSeq (sSet 13 (eBin addD (eBin addD (eV 6) (eBin fdivD (eBin mulD (eV 12) (eBin subD (eV 10) (eV 8))) (eBin mulD (eV 12) (eBin subD (eV 9) (eV 11))))) (eC (.int (1)))))
            (sIf (op2 leD (eV 13) (eV 7)) (sExp (eMt appG (eV 4) (aCons (eTup (aCons (eV 13) (aCons (eBin addD (eV 10) (eBin mulD (eV 11) (eBin subD (eV 13) (eV 6)))) (aCons (eV 11) aNil)))) aNil))) gNil)) gNil))
theorem mulT {t x : Int} (ht : t.natAbs ≤ 1) (hx : x.natAbs ≤ 2 ^ 160) : mulD (.int t) (.int x) = some (.int (t * x)) := mulB (Nat.lt_of_le_of_lt ht (by decide)) (Nat.lt_of_le_of_lt hx (by decide))
theorem pk_step (v0 v1 v2 v3 v5 v14 : S) (found : List D) {t s last a p b q : Int} (x13 : S) (ht : t.natAbs ≤ 1) (s0 : 0 ≤ s) (hsl : s ≤ last) (l0 : last ≤ 1000000000000) (c1 : t * (a - b) ≤ 0) (ha : a.natAbs ≤ 2 ^ 80) (hb : b.natAbs ≤ 2 ^ 80) (hp : p.natAbs ≤ 2 ^ 150) (hq : q.natAbs ≤ 2 ^ 150) (hl : found.length < 1000000) :
    ∃ t13, pkT [v0, v1, v2, v3, .cel 0, v5, .d (.int s), .d (.int last), .d (.int a), .d (.int p), .d (.int b), .d (.int q), .d (.int t), x13, v14] [.lst found] =
      .nx [v0, v1, v2, v3, .cel 0, v5, .d (.int s), .d (.int last), .d (.int a), .d (.int p), .d (.int b), .d (.int q), .d (.int t), t13, v14] [.lst (found ++ (pk t s last a p b q).map eL)] := by
  have z1 : found.length ≤ sizeLine := size_ok (by omega)
  have z2 : found.length < sizeLine := size_lt (by omega)
  have z3 : found.length + 1 ≤ sizeLine := size_ok (by omega)
  have z4 : found.length + 1 < sizeLine := size_lt (by omega)
  have m1 := mulT (t := t) (x := p - q) ht (by omega)
  have m2 := mulT (t := t) (x := b - a) ht (by omega)
  have vb : (t * (p - q)).natAbs ≤ 2 ^ 160 := by
    rw [Int.natAbs_mul]
    exact Nat.le_trans (Nat.mul_le_mul ht (show (p - q).natAbs ≤ 2 ^ 151 by omega)) (by decide)
  unfold pk
  by_cases v : 0 < t * (p - q)
  · have d1 : fdivD (.int (t * (b - a))) (.int (t * (p - q))) = some (.int (t * (b - a) / (t * (p - q)))) := fdivD_lt v (Nat.lt_of_le_of_lt vb (by decide))
    by_cases w : s + t * (b - a) / (t * (p - q)) + 1 ≤ last
    · rw [if_pos ⟨v, w⟩]
      have k0 : 0 ≤ t * (b - a) / (t * (p - q)) := Int.ediv_nonneg (by
        have : t * (b - a) = - (t * (a - b)) := by rw [← Int.mul_neg]; congr 1; omega
        omega) (by omega)
      have m3 : mulD (.int q) (.int (s + t * (b - a) / (t * (p - q)) + 1 - s)) = some (.int (q * (s + t * (b - a) / (t * (p - q)) + 1 - s))) := mulB (Nat.lt_of_le_of_lt hq (by decide)) (Nat.lt_of_le_of_lt (m := 1000000000000) (by omega) (by decide))
      refine ⟨.d (.int (s + t * (b - a) / (t * (p - q)) + 1)), ?_⟩
      generalize t * (b - a) / (t * (p - q)) = k at *
      generalize t * (p - q) = vv at *
      generalize t * (b - a) = uu at *
      simp [m1, m2, m3, d1, v, w, z1, z2, z3, z4, eL, -mulD_int, -fdivD_int]
    · rw [if_neg fun z => w z.2]
      refine ⟨.d (.int (s + t * (b - a) / (t * (p - q)) + 1)), ?_⟩
      generalize t * (b - a) / (t * (p - q)) = k at *
      generalize t * (p - q) = vv at *
      generalize t * (b - a) = uu at *
      simp [m1, m2, d1, v, w, z1, z2, eL, -mulD_int, -fdivD_int]
  · rw [if_neg fun z => v z.1]
    refine ⟨x13, ?_⟩
    generalize t * (p - q) = vv at *
    simp [m1, v, z1, z2, eL, -mulD_int]
abbrev pickT : G := (gSeq (sIf (tOrM (op2 gtD (eBin mulD (eV 12) (eBin subD (eV 8) (eV 10))) (eC (.int (0)))) (tAndM (op2 eqD (eV 8) (eV 10)) (op2 gtD (eBin mulD (eV 12) (eBin subD (eV 9) (eV 11))) (eC (.int (0)))))) (sTgt (gtT (gtsCons (gtN 8) (gtsCons (gtN 9) (gtsCons (gtN 10) (gtsCons (gtN 11) gtsNil))))) (eTup (aCons (eV 10) (aCons (eV 11) (aCons (eV 8) (aCons (eV 9) aNil)))))) gNil) pkT)
theorem pick_step (v0 v1 v2 v3 v5 v14 : S) (found : List D) {t s last a p b q : Int} (x13 : S) (ht : t = 1 ∨ t = -1) (s0 : 0 ≤ s) (hsl : s ≤ last) (l0 : last ≤ 1000000000000) (ha : a.natAbs ≤ 2 ^ 80) (hb : b.natAbs ≤ 2 ^ 80) (hp : p.natAbs ≤ 2 ^ 150) (hq : q.natAbs ≤ 2 ^ 150) (hl : found.length < 1000000) :
    ∃ t8 t9 t10 t11 t13, pickT [v0, v1, v2, v3, .cel 0, v5, .d (.int s), .d (.int last), .d (.int a), .d (.int p), .d (.int b), .d (.int q), .d (.int t), x13, v14] [.lst found] =
      .nx [v0, v1, v2, v3, .cel 0, v5, .d (.int s), .d (.int last), t8, t9, t10, t11, .d (.int t), t13, v14] [.lst (found ++ (pick t s last a p b q).map eL)] := by
  have ht' : t.natAbs ≤ 1 := by omega
  have m1 := mulT (t := t) (x := p - q) ht' (by omega)
  have m2 := mulT (t := t) (x := a - b) ht' (by omega)
  unfold pick
  by_cases c : 0 < t * (a - b) ∨ (a = b ∧ 0 < t * (p - q))
  · rw [if_pos c]
    have c1 : t * (b - a) ≤ 0 := by
      rcases c with c | ⟨rfl, c⟩
      · rcases ht with rfl | rfl <;> omega
      · rw [Int.sub_self, Int.mul_zero]; exact Int.le_refl 0
    obtain ⟨t13, e⟩ := pk_step v0 v1 v2 v3 v5 v14 found (t := t) (s := s) (last := last) (a := b) (p := q) (b := a) (q := p) x13 ht' s0 hsl l0 c1 hb ha hq hp hl
    refine ⟨.d (.int b), .d (.int q), .d (.int a), .d (.int p), t13, gSeq_of ?_ e⟩
    rcases c with c | ⟨c, c'⟩
    · generalize t * (a - b) = vv at *
      simp [m2, c, -mulD_int]
    · by_cases d : 0 < t * (a - b)
      · generalize t * (a - b) = vv at *
        simp [m2, d, -mulD_int]
      · have e1 : (a == b) = true := beq_iff_eq.2 c
        generalize t * (a - b) = vv at *
        generalize t * (p - q) = ww at *
        simp [m1, m2, d, e1, c', -mulD_int]
  · rw [if_neg c]
    have c1 : t * (a - b) ≤ 0 := by omega
    obtain ⟨t13, e⟩ := pk_step v0 v1 v2 v3 v5 v14 found (t := t) (s := s) (last := last) (a := a) (p := p) (b := b) (q := q) x13 ht' s0 hsl l0 c1 ha hb hp hq hl
    refine ⟨.d (.int a), .d (.int p), .d (.int b), .d (.int q), t13, gSeq_of ?_ e⟩
    have d : ¬ 0 < t * (a - b) := fun z => c (.inl z)
    by_cases e1 : a = b
    · have d2 : ¬ 0 < t * (p - q) := fun z => c (.inr ⟨e1, z⟩)
      have e2 : (a == b) = true := beq_iff_eq.2 e1
      generalize t * (a - b) = vv at *
      generalize t * (p - q) = ww at *
      simp [m1, m2, d, e2, d2, -mulD_int]
    · have e2 : (a == b) = false := beq_eq_false_iff_ne.2 e1
      generalize t * (a - b) = vv at *
      simp [m2, d, e2, -mulD_int]
theorem pow12 : powD (.int 10) (.int 12) = some (.int 1000000000000) := by
  rw [powD_int, if_pos (by decide)]; rfl
theorem pow15 : powD (.int 10) (.int 15) = some (.int 1000000000000000) := by
  rw [powD_int, if_pos (by decide)]; rfl
theorem last_step {ρ : List S} {cs : Store} {zs z1 z2 : List Int} {s : Int} (hz : zs = z1 ++ s :: z2) (h3 : ρ[3]? = some (.d (.list (zs.map .int)))) (h5 : ρ[5]? = some (.d (.int z1.length))) :
    sSet 6 (eBin ixD (eV 3) (eV 5)) ρ cs = .nx (ρ.set 6 (.d (.int s))) cs ∧ sSet 7 (eIf (op2 ltD (eBin addD (eV 5) (eC (.int (1)))) (eCd lenG (aCons (eV 3) aNil))) (eBin subD (eBin ixD (eV 3) (eBin addD (eV 5) (eC (.int (1))))) (eC (.int (1)))) (eBin powD (eC (.int (10))) (eC (.int (12))))) ρ cs = .nx (ρ.set 7 (.d (.int (lastO z2)))) cs := by
  have a1 : atI (zs.map PyData.int) (z1.length : Int) = some (.int s) := by subst hz; exact atI_of rfl (by simp)
  have ll : (zs.map PyData.int).length = z1.length + 1 + z2.length := by subst hz; simp; omega
  have a2 : ∀ n t, z2 = n :: t → atI (zs.map PyData.int) ((z1.length : Int) + 1) = some (.int n) := fun n t e => by
    subst e; subst hz
    exact atI_of (n := z1.length + 1) (by omega) (by simp)
  have c : ∀ n t, z2 = n :: t → (z1.length : Int) + 1 < ((zs.map PyData.int).length : Int) := fun n t e => by rw [ll, e, List.length_cons]; omega
  have c' : z2 = [] → ¬ (z1.length : Int) + 1 < ((zs.map PyData.int).length : Int) := fun e => by rw [ll, e, List.length_nil]; omega
  generalize zs.map PyData.int = Z at *
  constructor
  · simp [h3, h5, a1]
  · cases z2 with
    | nil =>
      have c1 := c' rfl
      simp [h3, h5, c1, pow12, lastO, -powD_int]
    | cons n t =>
      have c1 := c n t rfl
      have a3 := a2 n t rfl
      simp [h3, h5, c1, a3, lastO]
theorem sIf_no {t : List S → M Bool} {g h : G} {ρ : List S} {cs cs' : Store} {o : Out} (h1 : t ρ cs = .ok false cs') (h2 : h ρ cs' = o) : sIf t g h ρ cs = o := by
  simp [h1, h2]
theorem sIf_yes {t : List S → M Bool} {g h : G} {ρ : List S} {cs cs' : Store} {o : Out} (h1 : t ρ cs = .ok true cs') (h2 : g ρ cs' = o) : sIf t g h ρ cs = o := by
  simp [h1, h2]
theorem lj_step {F G : Int → Int} {one two : List Lr} {B : Nat} (h1 : LL one F B) (h2 : LL two G B) (hB : B ≤ 2 ^ 150) (l1 : one.length < 1000000) (l2 : two.length < 1000000) (b1 : Bv F (2 ^ 80)) (b2 : Bv G (2 ^ 80)) (o : Op) {zs z1 z2 : List Int} {s : Int} (hz : zs = z1 ++ s :: z2) (hs : zs.Pairwise (· < ·)) (hin : ∀ z ∈ zs, 0 ≤ z ∧ z ≤ 1000000000000) (m1 : ∀ r ∈ one, r.s ∈ zs) (m2 : ∀ r ∈ two, r.s ∈ zs) (found : List Lr) (hf : LRep found 0 (s - 1) (fun x => o.ap (F x) (G x))) (hl : found.length < 1000000) (x6 x7 x8 x9 x10 x11 x12 x13 x14 : S) :
    ∃ rows t6 t7 t8 t9 t10 t11 t12 t13 t14, (gSeq (sSet 6 (eBin ixD (eV 3) (eV 5)))
      (gSeq (sSet 7 (eIf (op2 ltD (eBin addD (eV 5) (eC (.int (1)))) (eCd lenG (aCons (eV 3) aNil))) (eBin subD (eBin ixD (eV 3) (eBin addD (eV 5) (eC (.int (1))))) (eC (.int (1)))) (eBin powD (eC (.int (10))) (eC (.int (12))))))
      (gSeq (sTgt (gtT (gtsCons (gtN 8) (gtsCons (gtN 9) gtsNil))) (eFrz (eCall F__law_at (aCons (eV 1) (aCons (eV 6) aNil)))))
      (gSeq (sTgt (gtT (gtsCons (gtN 10) (gtsCons (gtN 11) gtsNil))) (eFrz (eCall F__law_at (aCons (eV 2) (aCons (eV 6) aNil)))))
      (sIf (op2 eqD (eV 0) (eC (.str "plus"))) (sExp (eMt appG (eV 4) (aCons (eTup (aCons (eV 6) (aCons (eBin addD (eV 8) (eV 10)) (aCons (eBin addD (eV 9) (eV 11)) aNil)))) aNil))) (sIf (op2 eqD (eV 0) (eC (.str "minus"))) (sExp (eMt appG (eV 4) (aCons (eTup (aCons (eV 6) (aCons (eBin subD (eV 8) (eV 10)) (aCons (eBin subD (eV 9) (eV 11)) aNil)))) aNil))) (gSeq (sSet 12 (eIf (op2 eqD (eV 0) (eC (.str "min"))) (eC (.int (1))) (eNeg (eC (.int (1))))))
          (gSeq (sIf (tOrM (op2 gtD (eBin mulD (eV 12) (eBin subD (eV 8) (eV 10))) (eC (.int (0)))) (tAndM (op2 eqD (eV 8) (eV 10)) (op2 gtD (eBin mulD (eV 12) (eBin subD (eV 9) (eV 11))) (eC (.int (0)))))) (sTgt (gtT (gtsCons (gtN 8) (gtsCons (gtN 9) (gtsCons (gtN 10) (gtsCons (gtN 11) gtsNil))))) (eTup (aCons (eV 10) (aCons (eV 11) (aCons (eV 8) (aCons (eV 9) aNil)))))) gNil)
          (gSeq (sExp (eMt appG (eV 4) (aCons (eTup (aCons (eV 6) (aCons (eV 8) (aCons (eV 9) aNil)))) aNil)))
          (sIf (op2 gtD (eBin mulD (eV 12) (eBin subD (eV 9) (eV 11))) (eC (.int (0)))) (gSeq (sSet 13 (eBin addD (eBin addD (eV 6) (eBin fdivD (eBin mulD (eV 12) (eBin subD (eV 10) (eV 8))) (eBin mulD (eV 12) (eBin subD (eV 9) (eV 11))))) (eC (.int (1)))))
            (sIf (op2 leD (eV 13) (eV 7)) (sExp (eMt appG (eV 4) (aCons (eTup (aCons (eV 13) (aCons (eBin addD (eV 10) (eBin mulD (eV 11) (eBin subD (eV 13) (eV 6)))) (aCons (eV 11) aNil)))) aNil))) gNil)) gNil)))))))))) [.d (.str o.nm), .d (.list (one.map eL)), .d (.list (two.map eL)), .d (.list (zs.map .int)), .cel 0, .d (.int z1.length), x6, x7, x8, x9, x10, x11, x12, x13, x14] [.lst (found.map eL)] =
      .nx [.d (.str o.nm), .d (.list (one.map eL)), .d (.list (two.map eL)), .d (.list (zs.map .int)), .cel 0, .d (.int z1.length), t6, t7, t8, t9, t10, t11, t12, t13, t14] [.lst ((found ++ rows).map eL)] ∧
      LRep (found ++ rows) 0 (lastO z2) (fun x => o.ap (F x) (G x)) ∧ rows.length ≤ 2 ∧ ∀ r ∈ rows, r.p.natAbs ≤ 2 * B := by
  obtain ⟨s0, s1⟩ := hin s (by simp [hz])
  have sl : s ≤ lastO z2 ∧ lastO z2 ≤ 1000000000000 := by
    cases z2 with
    | nil => exact ⟨s1, Int.le_refl _⟩
    | cons n t =>
      have := (hin n (by simp [hz])).2
      rw [hz] at hs
      have := (List.pairwise_cons.1 (List.pairwise_append.1 hs).2.1).1 n (by simp)
      show s ≤ n - 1 ∧ n - 1 ≤ _
      omega
  obtain ⟨p, hp, ep, fp⟩ := law_at_aff h1 hB l1 (s := s) (by rw [← hz]; exact hs) (fun r hr _ => by rw [← hz]; exact m1 r hr) s0 s1
  obtain ⟨q, hq, eq, fq⟩ := law_at_aff h2 hB l2 (s := s) (by rw [← hz]; exact hs) (fun r hr _ => by rw [← hz]; exact m2 r hr) s0 s1
  have jr := jrow_rep (o := o) (found := found) sl.1 (fun x a b => fp x a b (by omega)) (fun x a b => fq x a b (by omega)) hf
  have jl := jrow_len o s (lastO z2) (F s) p (G s) q
  have jp := jrow_p (o := o) (s := s) (last := lastO z2) (a := F s) (b := G s) hp hq
  have bF := b1 s s0 s1
  have bG := b2 s s0 s1
  have fl : (found.map eL).length < 1000000 := by rw [List.length_map]; exact hl
  have z1' : (found.map eL).length ≤ sizeLine := size_ok (by omega)
  have z2' : (found.map eL).length < sizeLine := size_lt (by omega)
  obtain ⟨k6, _⟩ := last_step (ρ := [.d (.str o.nm), .d (.list (one.map eL)), .d (.list (two.map eL)), .d (.list (zs.map .int)), .cel 0, .d (.int z1.length), x6, x7, x8, x9, x10, x11, x12, x13, x14]) (cs := [.lst (found.map eL)]) hz rfl rfl
  obtain ⟨_, k7⟩ := last_step (ρ := [.d (.str o.nm), .d (.list (one.map eL)), .d (.list (two.map eL)), .d (.list (zs.map .int)), .cel 0, .d (.int z1.length), .d (.int s), x7, x8, x9, x10, x11, x12, x13, x14]) (cs := [.lst (found.map eL)]) hz rfl rfl
  simp only [List.set_cons_succ, List.set_cons_zero] at k6 k7
  have k8 : sTgt (gtT (gtsCons (gtN 8) (gtsCons (gtN 9) gtsNil))) (eFrz (eCall F__law_at (aCons (eV 1) (aCons (eV 6) aNil)))) [.d (.str o.nm), .d (.list (one.map eL)), .d (.list (two.map eL)), .d (.list (zs.map .int)), .cel 0, .d (.int z1.length), .d (.int s), .d (.int (lastO z2)), x8, x9, x10, x11, x12, x13, x14] [.lst (found.map eL)] = .nx [.d (.str o.nm), .d (.list (one.map eL)), .d (.list (two.map eL)), .d (.list (zs.map .int)), .cel 0, .d (.int z1.length), .d (.int s), .d (.int (lastO z2)), .d (.int (F s)), .d (.int p), x10, x11, x12, x13, x14] [.lst (found.map eL)] := by
    generalize one.map eL = L1 at *
    generalize two.map eL = L2 at *
    generalize found.map eL = L3 at *
    generalize zs.map PyData.int = L4 at *
    simp [ep]
  have k10 : sTgt (gtT (gtsCons (gtN 10) (gtsCons (gtN 11) gtsNil))) (eFrz (eCall F__law_at (aCons (eV 2) (aCons (eV 6) aNil)))) [.d (.str o.nm), .d (.list (one.map eL)), .d (.list (two.map eL)), .d (.list (zs.map .int)), .cel 0, .d (.int z1.length), .d (.int s), .d (.int (lastO z2)), .d (.int (F s)), .d (.int p), x10, x11, x12, x13, x14] [.lst (found.map eL)] = .nx [.d (.str o.nm), .d (.list (one.map eL)), .d (.list (two.map eL)), .d (.list (zs.map .int)), .cel 0, .d (.int z1.length), .d (.int s), .d (.int (lastO z2)), .d (.int (F s)), .d (.int p), .d (.int (G s)), .d (.int q), x12, x13, x14] [.lst (found.map eL)] := by
    generalize one.map eL = L1 at *
    generalize two.map eL = L2 at *
    generalize found.map eL = L3 at *
    generalize zs.map PyData.int = L4 at *
    simp [eq]
  have hp' : p.natAbs ≤ 2 ^ 150 := Nat.le_trans hp hB
  have hq' : q.natAbs ≤ 2 ^ 150 := Nat.le_trans hq hB
  cases o with
  | plus =>
    refine ⟨jrow .plus s (lastO z2) (F s) p (G s) q, .d (.int s), .d (.int (lastO z2)), .d (.int (F s)), .d (.int p), .d (.int (G s)), .d (.int q), x12, x13, x14, ?_, jr, jl, jp⟩
    refine gSeq_of k6 (gSeq_of k7 (gSeq_of k8 (gSeq_of k10 ?_)))
    rw [List.map_append]
    generalize one.map eL = L1 at *
    generalize two.map eL = L2 at *
    generalize found.map eL = L3 at *
    generalize zs.map PyData.int = L4 at *
    simp [Op.nm, jrow, eL, z1', z2']
  | minus =>
    refine ⟨jrow .minus s (lastO z2) (F s) p (G s) q, .d (.int s), .d (.int (lastO z2)), .d (.int (F s)), .d (.int p), .d (.int (G s)), .d (.int q), x12, x13, x14, ?_, jr, jl, jp⟩
    refine gSeq_of k6 (gSeq_of k7 (gSeq_of k8 (gSeq_of k10 ?_)))
    rw [List.map_append]
    generalize one.map eL = L1 at *
    generalize two.map eL = L2 at *
    generalize found.map eL = L3 at *
    generalize zs.map PyData.int = L4 at *
    simp [Op.nm, jrow, eL, z1', z2']
  | min =>
    obtain ⟨t8, t9, t10, t11, t13, e⟩ := pick_step (.d (.str Op.min.nm)) (.d (.list (one.map eL))) (.d (.list (two.map eL))) (.d (.list (zs.map .int))) (.d (.int z1.length)) x14 (found.map eL) (t := 1) (s := s) (last := lastO z2) (a := F s) (p := p) (b := G s) (q := q) x13 (.inl rfl) s0 sl.1 sl.2 bF bG hp' hq' fl
    refine ⟨jrow .min s (lastO z2) (F s) p (G s) q, .d (.int s), .d (.int (lastO z2)), t8, t9, t10, t11, .d (.int 1), t13, x14, ?_, jr, jl, jp⟩
    refine gSeq_of k6 (gSeq_of k7 (gSeq_of k8 (gSeq_of k10 ?_)))
    rw [List.map_append]
    show _ = Out.nx _ [.lst (found.map eL ++ (pick 1 s (lastO z2) (F s) p (G s) q).map eL)]
    generalize one.map eL = L1 at *
    generalize two.map eL = L2 at *
    generalize found.map eL = L3 at *
    generalize zs.map PyData.int = L4 at *
    generalize (pick 1 s (lastO z2) (F s) p (G s) q).map eL = L5 at *
    simp only [Op.nm] at e ⊢
    have i1 : op2 eqD (eV 0) (eC (.str "plus")) [.d (.str "min"), .d (.list L1), .d (.list L2), .d (.list L4), .cel 0, .d (.int z1.length), .d (.int s), .d (.int (lastO z2)), .d (.int (F s)), .d (.int p), .d (.int (G s)), .d (.int q), x12, x13, x14] [.lst L3] = .ok false [.lst L3] := by simp
    have i2 : op2 eqD (eV 0) (eC (.str "minus")) [.d (.str "min"), .d (.list L1), .d (.list L2), .d (.list L4), .cel 0, .d (.int z1.length), .d (.int s), .d (.int (lastO z2)), .d (.int (F s)), .d (.int p), .d (.int (G s)), .d (.int q), x12, x13, x14] [.lst L3] = .ok false [.lst L3] := by simp
    have i3 : sSet 12 (eIf (op2 eqD (eV 0) (eC (.str "min"))) (eC (.int (1))) (eNeg (eC (.int (1))))) [.d (.str "min"), .d (.list L1), .d (.list L2), .d (.list L4), .cel 0, .d (.int z1.length), .d (.int s), .d (.int (lastO z2)), .d (.int (F s)), .d (.int p), .d (.int (G s)), .d (.int q), x12, x13, x14] [.lst L3] = .nx [.d (.str "min"), .d (.list L1), .d (.list L2), .d (.list L4), .cel 0, .d (.int z1.length), .d (.int s), .d (.int (lastO z2)), .d (.int (F s)), .d (.int p), .d (.int (G s)), .d (.int q), .d (.int 1), x13, x14] [.lst L3] := by simp
    exact sIf_no i1 (sIf_no i2 (gSeq_of i3 e))
  | max =>
    obtain ⟨t8, t9, t10, t11, t13, e⟩ := pick_step (.d (.str Op.max.nm)) (.d (.list (one.map eL))) (.d (.list (two.map eL))) (.d (.list (zs.map .int))) (.d (.int z1.length)) x14 (found.map eL) (t := -1) (s := s) (last := lastO z2) (a := F s) (p := p) (b := G s) (q := q) x13 (.inr rfl) s0 sl.1 sl.2 bF bG hp' hq' fl
    refine ⟨jrow .max s (lastO z2) (F s) p (G s) q, .d (.int s), .d (.int (lastO z2)), t8, t9, t10, t11, .d (.int (-1)), t13, x14, ?_, jr, jl, jp⟩
    refine gSeq_of k6 (gSeq_of k7 (gSeq_of k8 (gSeq_of k10 ?_)))
    rw [List.map_append]
    show _ = Out.nx _ [.lst (found.map eL ++ (pick (-1) s (lastO z2) (F s) p (G s) q).map eL)]
    generalize one.map eL = L1 at *
    generalize two.map eL = L2 at *
    generalize found.map eL = L3 at *
    generalize zs.map PyData.int = L4 at *
    generalize (pick (-1) s (lastO z2) (F s) p (G s) q).map eL = L5 at *
    simp only [Op.nm] at e ⊢
    have i1 : op2 eqD (eV 0) (eC (.str "plus")) [.d (.str "max"), .d (.list L1), .d (.list L2), .d (.list L4), .cel 0, .d (.int z1.length), .d (.int s), .d (.int (lastO z2)), .d (.int (F s)), .d (.int p), .d (.int (G s)), .d (.int q), x12, x13, x14] [.lst L3] = .ok false [.lst L3] := by simp
    have i2 : op2 eqD (eV 0) (eC (.str "minus")) [.d (.str "max"), .d (.list L1), .d (.list L2), .d (.list L4), .cel 0, .d (.int z1.length), .d (.int s), .d (.int (lastO z2)), .d (.int (F s)), .d (.int p), .d (.int (G s)), .d (.int q), x12, x13, x14] [.lst L3] = .ok false [.lst L3] := by simp
    have i3 : sSet 12 (eIf (op2 eqD (eV 0) (eC (.str "min"))) (eC (.int (1))) (eNeg (eC (.int (1))))) [.d (.str "max"), .d (.list L1), .d (.list L2), .d (.list L4), .cel 0, .d (.int z1.length), .d (.int s), .d (.int (lastO z2)), .d (.int (F s)), .d (.int p), .d (.int (G s)), .d (.int q), x12, x13, x14] [.lst L3] = .nx [.d (.str "max"), .d (.list L1), .d (.list L2), .d (.list L4), .cel 0, .d (.int z1.length), .d (.int s), .d (.int (lastO z2)), .d (.int (F s)), .d (.int p), .d (.int (G s)), .d (.int q), .d (.int (-1)), x13, x14] [.lst L3] := by simp
    exact sIf_no i1 (sIf_no i2 (gSeq_of i3 e))
theorem lj_loop {F G : Int → Int} {one two : List Lr} {B : Nat} (h1 : LL one F B) (h2 : LL two G B) (hB : B ≤ 2 ^ 150) (l1 : one.length < 1000000) (l2 : two.length < 1000000) (b1 : Bv F (2 ^ 80)) (b2 : Bv G (2 ^ 80)) (o : Op) {zs : List Int} (hs : zs.Pairwise (· < ·)) (hin : ∀ z ∈ zs, 0 ≤ z ∧ z ≤ 1000000000000) (m1 : ∀ r ∈ one, r.s ∈ zs) (m2 : ∀ r ∈ two, r.s ∈ zs) : ∀ (w z1 : List Int) (found : List Lr) (x5 x6 x7 x8 x9 x10 x11 x12 x13 x14 : S), zs = z1 ++ w → LRep found 0 (lastO w) (fun x => o.ap (F x) (G x)) → (∀ r ∈ found, r.p.natAbs ≤ 2 * B) → found.length + 2 * w.length < 1000000 →
    ∃ rows t5 t6 t7 t8 t9 t10 t11 t12 t13 t14, gFor (gtN 5) (gSeq (sSet 6 (eBin ixD (eV 3) (eV 5)))
      (gSeq (sSet 7 (eIf (op2 ltD (eBin addD (eV 5) (eC (.int (1)))) (eCd lenG (aCons (eV 3) aNil))) (eBin subD (eBin ixD (eV 3) (eBin addD (eV 5) (eC (.int (1))))) (eC (.int (1)))) (eBin powD (eC (.int (10))) (eC (.int (12))))))
      (gSeq (sTgt (gtT (gtsCons (gtN 8) (gtsCons (gtN 9) gtsNil))) (eFrz (eCall F__law_at (aCons (eV 1) (aCons (eV 6) aNil)))))
      (gSeq (sTgt (gtT (gtsCons (gtN 10) (gtsCons (gtN 11) gtsNil))) (eFrz (eCall F__law_at (aCons (eV 2) (aCons (eV 6) aNil)))))
      (sIf (op2 eqD (eV 0) (eC (.str "plus"))) (sExp (eMt appG (eV 4) (aCons (eTup (aCons (eV 6) (aCons (eBin addD (eV 8) (eV 10)) (aCons (eBin addD (eV 9) (eV 11)) aNil)))) aNil))) (sIf (op2 eqD (eV 0) (eC (.str "minus"))) (sExp (eMt appG (eV 4) (aCons (eTup (aCons (eV 6) (aCons (eBin subD (eV 8) (eV 10)) (aCons (eBin subD (eV 9) (eV 11)) aNil)))) aNil))) (gSeq (sSet 12 (eIf (op2 eqD (eV 0) (eC (.str "min"))) (eC (.int (1))) (eNeg (eC (.int (1))))))
          (gSeq (sIf (tOrM (op2 gtD (eBin mulD (eV 12) (eBin subD (eV 8) (eV 10))) (eC (.int (0)))) (tAndM (op2 eqD (eV 8) (eV 10)) (op2 gtD (eBin mulD (eV 12) (eBin subD (eV 9) (eV 11))) (eC (.int (0)))))) (sTgt (gtT (gtsCons (gtN 8) (gtsCons (gtN 9) (gtsCons (gtN 10) (gtsCons (gtN 11) gtsNil))))) (eTup (aCons (eV 10) (aCons (eV 11) (aCons (eV 8) (aCons (eV 9) aNil)))))) gNil)
          (gSeq (sExp (eMt appG (eV 4) (aCons (eTup (aCons (eV 6) (aCons (eV 8) (aCons (eV 9) aNil)))) aNil)))
          (sIf (op2 gtD (eBin mulD (eV 12) (eBin subD (eV 9) (eV 11))) (eC (.int (0)))) (gSeq (sSet 13 (eBin addD (eBin addD (eV 6) (eBin fdivD (eBin mulD (eV 12) (eBin subD (eV 10) (eV 8))) (eBin mulD (eV 12) (eBin subD (eV 9) (eV 11))))) (eC (.int (1)))))
            (sIf (op2 leD (eV 13) (eV 7)) (sExp (eMt appG (eV 4) (aCons (eTup (aCons (eV 13) (aCons (eBin addD (eV 10) (eBin mulD (eV 11) (eBin subD (eV 13) (eV 6)))) (aCons (eV 11) aNil)))) aNil))) gNil)) gNil)))))))))) (upN z1.length w.length) [.d (.str o.nm), .d (.list (one.map eL)), .d (.list (two.map eL)), .d (.list (zs.map .int)), .cel 0, x5, x6, x7, x8, x9, x10, x11, x12, x13, x14] [.lst (found.map eL)] =
      .nx [.d (.str o.nm), .d (.list (one.map eL)), .d (.list (two.map eL)), .d (.list (zs.map .int)), .cel 0, t5, t6, t7, t8, t9, t10, t11, t12, t13, t14] [.lst (rows.map eL)] ∧
      LL rows (fun x => o.ap (F x) (G x)) (2 * B) ∧ rows.length ≤ found.length + 2 * w.length
  | [], z1, found, x5, x6, x7, x8, x9, x10, x11, x12, x13, x14, hz, hf, hp, hl => ⟨found, x5, x6, x7, x8, x9, x10, x11, x12, x13, x14, rfl, ⟨hf, hp⟩, by simp⟩
  | s :: z2, z1, found, x5, x6, x7, x8, x9, x10, x11, x12, x13, x14, hz, hf, hp, hl => by
    rw [List.length_cons] at hl
    obtain ⟨rows, t6, t7, t8, t9, t10, t11, t12, t13, t14, e, r1, r2, r3⟩ := lj_step h1 h2 hB l1 l2 b1 b2 o hz hs hin m1 m2 found hf (by omega) x6 x7 x8 x9 x10 x11 x12 x13 x14
    obtain ⟨R, u5, u6, u7, u8, u9, u10, u11, u12, u13, u14, e', q1, q2⟩ := lj_loop h1 h2 hB l1 l2 b1 b2 o hs hin m1 m2 z2 (z1 ++ [s]) (found ++ rows) (.d (.int z1.length)) t6 t7 t8 t9 t10 t11 t12 t13 t14 (by rw [hz]; simp) r1 (fun r hr => by
      rcases List.mem_append.1 hr with z | z
      · exact hp r z
      · exact r3 r z) (by rw [List.length_append]; omega)
    rw [List.length_append, List.length_singleton] at e'
    refine ⟨R, u5, u6, u7, u8, u9, u10, u11, u12, u13, u14, ?_, q1, by rw [List.length_append] at q2; rw [List.length_cons]; omega⟩
    have un : upN z1.length (s :: z2).length = .int (z1.length : Int) :: upN (z1.length + 1) z2.length := rfl
    rw [un, gFor_cons]
    simp only [gtN_, List.set_cons_succ, List.set_cons_zero]
    rw [e]
    exact e'
theorem starts_ {i : Nat} {rs : List Lr} {ρ : List S} {cs : Store} (hi : ∀ x, (ρ.set i x)[i]? = some x) (hl : rs.length < 1000000) : lcL (gtN i) tYesM (eBin ixD (eV i) (eC (.int (0)))) ρ (rs.map eL) [] cs = .ok (.own (.lst ((rs.map (·.s)).map .int))) cs := by
  have := lcAll (tg := gtN i) (f := eBin ixD (eV i) (eC (.int (0)))) (ρ := ρ) (cs := cs) eL (fun r => .int r.s) rs (fun r _ => ⟨ρ.set i (.d (eL r)), rfl, by
    have e : eL r = .tuple [.int r.s, .int r.a, .int r.p] := rfl
    simp [hi, e]⟩) (by omega)
  rw [this, List.map_map]; rfl
theorem LL.ne {rs : List Lr} {F : Int → Int} {B : Nat} (h : LL rs F B) : ∃ r t, rs = r :: t ∧ r.s = 0 := by
  cases rs with
  | nil => have := h.r; have h' : (0 : Int) = 1000000000000 + 1 := this; omega
  | cons r t =>
    refine ⟨r, t, rfl, ?_⟩
    have := h.r
    cases t with
    | nil => exact this.1
    | cons q t => exact this.1
theorem sort0 {zs : List Int} (hs : zs.Pairwise (· < ·)) (h0 : (0 : Int) ∈ zs) (hin : ∀ z ∈ zs, 0 ≤ z) : lastO zs = -1 := by
  cases zs with
  | nil => cases h0
  | cons n t =>
    show n - 1 = -1
    have a := hin n (by simp)
    rcases List.mem_cons.1 h0 with z | z
    · omega
    · have := (List.pairwise_cons.1 hs).1 0 z; omega
theorem law_joined_ {F G : Int → Int} {one two : List Lr} {B : Nat} (h1 : LL one F B) (h2 : LL two G B) (hB : B ≤ 2 ^ 150) (hl : one.length + two.length < 4000) (b1 : Bv F (2 ^ 80)) (b2 : Bv G (2 ^ 80)) (o : Op) :
    ∃ rows, F__law_joined [.d (.str o.nm), .d (.list (one.map eL)), .d (.list (two.map eL))] [] = .ok (.own (.lst (rows.map eL))) [] ∧ LL rows (fun x => o.ap (F x) (G x)) (2 * B) ∧ rows.length ≤ 2 * (one.length + two.length) := by
  obtain ⟨zs, e1, hs, hm, zl⟩ := srt_int (ns := one.map (·.s) ++ two.map (·.s)) (by rw [List.length_append, List.length_map, List.length_map]; exact hl)
  rw [List.length_append, List.length_map, List.length_map] at zl
  have m1 : ∀ r ∈ one, r.s ∈ zs := fun r hr => (hm _).2 (List.mem_append.2 (.inl (List.mem_map.2 ⟨r, hr, rfl⟩)))
  have m2 : ∀ r ∈ two, r.s ∈ zs := fun r hr => (hm _).2 (List.mem_append.2 (.inr (List.mem_map.2 ⟨r, hr, rfl⟩)))
  have hin : ∀ z ∈ zs, 0 ≤ z ∧ z ≤ 1000000000000 := fun z hz => by
    rcases List.mem_append.1 ((hm z).1 hz) with k | k
    · obtain ⟨r, hr, rfl⟩ := List.mem_map.1 k; exact h1.in r hr
    · obtain ⟨r, hr, rfl⟩ := List.mem_map.1 k; exact h2.in r hr
  obtain ⟨r0, t0, e0, s0⟩ := h1.ne
  have z0 := sort0 hs (by rw [← s0]; exact m1 r0 (by simp [e0])) fun z hz => (hin z hz).1
  obtain ⟨R, u5, u6, u7, u8, u9, u10, u11, u12, u13, u14, e2, q1, q2⟩ := lj_loop h1 h2 hB (by omega) (by omega) b1 b2 o hs hin m1 m2 zs [] [] .no .no .no .no .no .no .no .no .no .no rfl (by rw [z0]; show (0 : Int) = -1 + 1; omega) (by simp) (by simp; omega)
  refine ⟨R, ?_, q1, by simp at q2; omega⟩
  have zz : ((one.map (·.s)).map PyData.int).length + ((two.map (·.s)).map PyData.int).length ≤ sizeLine := size_ok (by rw [List.length_map, List.length_map, List.length_map, List.length_map]; omega)
  rw [List.map_append] at e1
  have s1 : sSet 3 (eCd sortedSetG (aCons (eBin addD (eFrz (eLc (iAnyM (eV 1)) (gtN 14) tYesM (eBin ixD (eV 14) (eC (.int (0)))) [14])) (eFrz (eLc (iAnyM (eV 2)) (gtN 14) tYesM (eBin ixD (eV 14) (eC (.int (0)))) [14]))) aNil)) [.d (.str o.nm), .d (.list (one.map eL)), .d (.list (two.map eL)), .no, .no, .no, .no, .no, .no, .no, .no, .no, .no, .no, .no] [] = .nx [.d (.str o.nm), .d (.list (one.map eL)), .d (.list (two.map eL)), .d (.list (zs.map .int)), .no, .no, .no, .no, .no, .no, .no, .no, .no, .no, .no] [] := by
    have l1 := starts_ (i := 14) (rs := one) (ρ := [.d (.str o.nm), .d (.list (one.map eL)), .d (.list (two.map eL)), .no, .no, .no, .no, .no, .no, .no, .no, .no, .no, .no, .no]) (cs := []) (fun x => rfl) (by omega)
    have l2 := starts_ (i := 14) (rs := two) (ρ := [.d (.str o.nm), .d (.list (one.map eL)), .d (.list (two.map eL)), .no, .no, .no, .no, .no, .no, .no, .no, .no, .no, .no, .no]) (cs := []) (fun x => rfl) (by omega)
    generalize one.map eL = L1 at *
    generalize two.map eL = L2 at *
    generalize zs.map PyData.int = L4 at *
    generalize (one.map (·.s)).map PyData.int = L5 at *
    generalize (two.map (·.s)).map PyData.int = L6 at *
    simp [l1, l2, zz, sortedSetG_list, e1]
  have s2 : sNew 4 (eLst aNil) [.d (.str o.nm), .d (.list (one.map eL)), .d (.list (two.map eL)), .d (.list (zs.map .int)), .no, .no, .no, .no, .no, .no, .no, .no, .no, .no, .no] [] = .nx [.d (.str o.nm), .d (.list (one.map eL)), .d (.list (two.map eL)), .d (.list (zs.map .int)), .cel 0, .no, .no, .no, .no, .no, .no, .no, .no, .no, .no] [.lst []] := by simp
  have ir : iRng (eCd lenG (aCons (eV 3) aNil)) [.d (.str o.nm), .d (.list (one.map eL)), .d (.list (two.map eL)), .d (.list (zs.map .int)), .cel 0, .no, .no, .no, .no, .no, .no, .no, .no, .no, .no] [.lst []] = .ok (rngD 0 zs.length) [.lst []] := iRngNat (by
    have ll : (zs.map PyData.int).length = zs.length := List.length_map _
    rw [← ll]
    generalize zs.map PyData.int = L4 at *
    simp) (by omega)
  rw [rngD_up] at ir
  have s3 := sFor_of ir e2
  have s4 : sRet (eRv (eV 4)) [.d (.str o.nm), .d (.list (one.map eL)), .d (.list (two.map eL)), .d (.list (zs.map .int)), .cel 0, u5, u6, u7, u8, u9, u10, u11, u12, u13, u14] [.lst (R.map eL)] = .rt (.cel 0) [.lst (R.map eL)] := by simp
  unfold F__law_joined
  rw [runG_]
  exact (congrArg (fin 0) (gSeq_of s1 (gSeq_of s2 (gSeq_of s3 s4)))).trans (by simp [fin_cel])
theorem lrep_of {H : Int → Int} {f : Int → Int} : ∀ (w : List Int) (found : List Lr), w.Pairwise (· < ·) → (∀ z ∈ w, z ≤ 1000000000000) → LRep found 0 (lastO w) H → (∀ z1 s z2, w = z1 ++ s :: z2 → ∀ x, s ≤ x → x ≤ lastO z2 → H x = H s + f s * (x - s)) → LRep (found ++ w.map fun s => ⟨s, H s, f s⟩) 0 1000000000000 H
  | [], found, _, _, h, _ => by rw [List.map_nil, List.append_nil]; exact h
  | s :: t, found, hs, hM, h, k => by
    have e : found ++ (s :: t).map (fun s => (⟨s, H s, f s⟩ : Lr)) = (found ++ [⟨s, H s, f s⟩]) ++ t.map fun s => ⟨s, H s, f s⟩ := by simp
    rw [e]
    obtain ⟨p1, p2⟩ := List.pairwise_cons.1 hs
    have sl : s ≤ lastO t := by
      cases t with
      | nil => exact hM s (by simp)
      | cons n t => have := p1 n (by simp); show s ≤ n - 1; omega
    refine lrep_of t _ p2 (fun z hz => hM z (by simp [hz])) (lrep_snoc.2 ⟨h, sl, fun x a b => k [] s t rfl x a b⟩) fun z1 s' z2 e' => k (s :: z1) s' z2 (by rw [e']; rfl)
theorem between {z1 z2 : List Int} {s y : Int} (hs : (z1 ++ s :: z2).Pairwise (· < ·)) (hy : y ∈ z1 ++ s :: z2) (h : s < y) : lastO z2 < y := by
  obtain ⟨_, g1, g2⟩ := List.pairwise_append.1 hs
  rcases List.mem_append.1 hy with z | z
  · have := g2 _ z s (by simp); omega
  · rcases List.mem_cons.1 z with z | z
    · omega
    · cases z2 with
      | nil => cases z
      | cons n t =>
        show n - 1 < y
        obtain ⟨_, g3⟩ := List.pairwise_cons.1 g1
        rcases List.mem_cons.1 z with z | z
        · omega
        · have := (List.pairwise_cons.1 g3).1 _ z; omega
theorem lastO_le {z1 z2 : List Int} (hin : ∀ z ∈ z1 ++ z2, z ≤ 1000000000000) : lastO z2 ≤ 1000000000000 := by
  cases z2 with
  | nil => exact Int.le_refl _
  | cons n t => have := hin n (by simp); show n - 1 ≤ _; omega
theorem law_chosen_ {F G : Int → Int} {one two : List Lr} {B : Nat} {lo hi : Int} (lo0 : 0 ≤ lo) (lohi : lo ≤ hi) (hiM : hi ≤ 1000000000000) (h1 : LL one F B) (h2 : LL two G B) (hB : B ≤ 2 ^ 150) (hl : one.length + two.length < 3900) :
    ∃ rows, F__law_chosen [.d (.int lo), .d (.int hi), .d (.list (one.map eL)), .d (.list (two.map eL))] [] = .ok (.own (.lst (rows.map eL))) [] ∧ LL rows (ifF lo hi F G) B ∧ rows.length ≤ one.length + two.length + 2 := by
  obtain ⟨zs, e1, hs, hm, zl⟩ := srt_int (ns := one.map (·.s) ++ two.map (·.s) ++ [lo, hi + 1]) (by rw [List.length_append, List.length_append, List.length_map, List.length_map]; simp; omega)
  rw [List.length_append, List.length_append, List.length_map, List.length_map] at zl
  have m1 : ∀ r ∈ one, r.s ∈ zs := fun r hr => (hm _).2 (List.mem_append.2 (.inl (List.mem_append.2 (.inl (List.mem_map.2 ⟨r, hr, rfl⟩)))))
  have m2 : ∀ r ∈ two, r.s ∈ zs := fun r hr => (hm _).2 (List.mem_append.2 (.inl (List.mem_append.2 (.inr (List.mem_map.2 ⟨r, hr, rfl⟩)))))
  have m3 : lo ∈ zs := (hm _).2 (List.mem_append.2 (.inr (by simp)))
  have m4 : hi + 1 ∈ zs := (hm _).2 (List.mem_append.2 (.inr (by simp)))
  have hin : ∀ z ∈ zs, 0 ≤ z := fun z hz => by
    rcases List.mem_append.1 ((hm z).1 hz) with k | k
    · rcases List.mem_append.1 k with k | k
      · obtain ⟨r, hr, rfl⟩ := List.mem_map.1 k; exact (h1.in r hr).1
      · obtain ⟨r, hr, rfl⟩ := List.mem_map.1 k; exact (h2.in r hr).1
    · rcases List.mem_cons.1 k with k | k
      · omega
      · have := List.mem_singleton.1 k; omega
  let ys := zs.filter fun z => decide (z ≤ 1000000000000)
  have ym : ∀ z, z ∈ ys ↔ z ∈ zs ∧ z ≤ 1000000000000 := fun z => by
    show z ∈ zs.filter (fun z => decide (z ≤ 1000000000000)) ↔ _
    rw [List.mem_filter, decide_eq_true_iff]
  have ysrt : ys.Pairwise (· < ·) := hs.filter _
  have yM : ∀ z ∈ ys, z ≤ 1000000000000 := fun z hz => ((ym z).1 hz).2
  have y0 : ∀ z ∈ ys, 0 ≤ z := fun z hz => hin z ((ym z).1 hz).1
  obtain ⟨r0, t0, e0, s0⟩ := h1.ne
  have z0 := sort0 ysrt ((ym 0).2 ⟨by rw [← s0]; exact m1 r0 (by simp [e0]), by decide⟩) y0
  have ch : ∀ s : Int, ∃ p : Int, s ∈ ys → p.natAbs ≤ B ∧ (∀ z1 z2, ys = z1 ++ s :: z2 → ∀ x, s ≤ x → x ≤ lastO z2 → ifF lo hi F G x = ifF lo hi F G s + p * (x - s)) ∧ F__law_at [if lo ≤ s ∧ s ≤ hi then .d (.list (one.map eL)) else .d (.list (two.map eL)), .d (.int s)] [] = .ok (.d (.tuple [.int (ifF lo hi F G s), .int p])) [] := fun s => by
    by_cases ms : s ∈ ys
    · obtain ⟨z1, z2, ez⟩ := List.append_of_mem ms
      have uniq : ∀ w1 w2, ys = w1 ++ s :: w2 → lastO w2 ≤ lastO z2 := fun w1 w2 ew => by
        cases z2 with
        | nil => exact lastO_le (z1 := w1 ++ [s]) fun z hz => yM z (by rw [ew]; simpa using hz)
        | cons n t =>
          have a := between (s := s) (y := n) (by rw [← ew]; exact ysrt) (by rw [← ew, ez]; simp) (by
            have q := ysrt
            rw [ez] at q
            exact (List.pairwise_cons.1 (List.pairwise_append.1 q).2.1).1 n (by simp))
          show _ ≤ n - 1
          omega
      have hz : (z1 ++ s :: z2).Pairwise (· < ·) := by rw [← ez]; exact ysrt
      have ll := lastO_le (z1 := z1 ++ [s]) (z2 := z2) fun z hz => yM z (by rw [ez]; simpa using hz)
      by_cases c : lo ≤ s ∧ s ≤ hi
      · obtain ⟨p, hp, ep, fp⟩ := law_at_aff h1 hB (by omega) hz (fun r hr hM => by rw [← ez]; exact (ym _).2 ⟨m1 r hr, hM⟩) (y0 s ms) (yM s ms)
        have lh : lastO z2 ≤ hi := by
          by_cases d : hi + 1 ≤ 1000000000000
          · have := between (y := hi + 1) hz (by rw [← ez]; exact (ym _).2 ⟨m4, d⟩) (by omega)
            omega
          · omega
        refine ⟨p, fun _ => ⟨hp, fun w1 w2 ew x a b => ?_, ?_⟩⟩
        · have := uniq w1 w2 ew
          unfold ifF
          rw [if_pos c, if_pos ⟨by omega, by omega⟩]
          exact fp x a (by omega) (by omega)
        · unfold ifF
          rw [if_pos c, if_pos c]; exact ep
      · obtain ⟨p, hp, ep, fp⟩ := law_at_aff h2 hB (by omega) hz (fun r hr hM => by rw [← ez]; exact (ym _).2 ⟨m2 r hr, hM⟩) (y0 s ms) (yM s ms)
        refine ⟨p, fun _ => ⟨hp, fun w1 w2 ew x a b => ?_, ?_⟩⟩
        · have := uniq w1 w2 ew
          have c2 : ¬ (lo ≤ x ∧ x ≤ hi) := fun ⟨q1, q2⟩ => by
            have : s < lo := by omega
            have := between (y := lo) hz (by rw [← ez]; exact (ym _).2 ⟨m3, by omega⟩) this
            omega
          unfold ifF
          rw [if_neg c, if_neg c2]
          exact fp x a (by omega) (by omega)
        · unfold ifF
          rw [if_neg c, if_neg c]; exact ep
    · exact ⟨0, fun h => absurd h ms⟩
  obtain ⟨f, hf⟩ := Classical.axiomOfChoice ch
  have R : LRep ([] ++ ys.map fun s => ⟨s, ifF lo hi F G s, f s⟩) 0 1000000000000 (ifF lo hi F G) := lrep_of ys [] ysrt yM (by rw [z0]; show (0 : Int) = -1 + 1; omega) fun z1 s z2 e => (hf s (by rw [e]; simp)).2.1 z1 z2 e
  rw [List.nil_append] at R
  refine ⟨_, ?_, ⟨R, fun r hr => ?_⟩, ?_⟩
  · have lc := lcMap (cs := []) (tg := gtN 6) (t := op2 leD (eV 6) (eBin powD (eC (.int (10))) (eC (.int (12))))) (f := eBin addD (eTup (aCons (eV 6) aNil)) (eFrz (eCall F__law_at (aCons (eIf (tChn leD leD (eV 0) (eV 6) (eV 1)) (eV 2) (eV 3)) (aCons (eV 6) aNil))))) (ρ := [.d (.int lo), .d (.int hi), .d (.list (one.map eL)), .d (.list (two.map eL)), .d (.list (zs.map .int)), .no, .no]) PyData.int (fun z => decide (z ≤ 1000000000000)) (fun s => eL ⟨s, ifF lo hi F G s, f s⟩) zs [] (fun s ms => by
      refine ⟨[.d (.int lo), .d (.int hi), .d (.list (one.map eL)), .d (.list (two.map eL)), .d (.list (zs.map .int)), .no, .d (.int s)], rfl, ?_, fun c => ?_⟩
      · generalize one.map eL = L1 at *
        generalize two.map eL = L2 at *
        generalize zs.map PyData.int = L4 at *
        simp [pow12, -powD_int]
      · have := (hf s ((ym s).2 ⟨ms, by simpa using c⟩)).2.2
        generalize one.map eL = L1 at *
        generalize two.map eL = L2 at *
        generalize zs.map PyData.int = L4 at *
        generalize ifF lo hi F G s = v at *
        have z : 1 + 2 ≤ sizeLine := size_ok (by decide)
        by_cases d1 : lo ≤ s
        · by_cases d2 : s ≤ hi
          · rw [if_pos ⟨d1, d2⟩] at this
            simp [d1, d2, this, eL]
          · rw [if_neg fun q => d2 q.2] at this
            simp [d1, d2, this, eL]
        · rw [if_neg fun q => d1 q.1] at this
          simp [d1, this, eL]) (by simp at zl; simp; omega)
    rw [List.nil_append] at lc
    have lc' : (ys.map fun s => eL ⟨s, ifF lo hi F G s, f s⟩) = (ys.map fun s => (⟨s, ifF lo hi F G s, f s⟩ : Lr)).map eL := by rw [List.map_map]; rfl
    have s1 : sSet 4 (eCd sortedSetG (aCons (eBin addD (eBin addD (eFrz (eLc (iAnyM (eV 2)) (gtN 5) tYesM (eBin ixD (eV 5) (eC (.int (0)))) [5])) (eFrz (eLc (iAnyM (eV 3)) (gtN 5) tYesM (eBin ixD (eV 5) (eC (.int (0)))) [5]))) (eFrz (eLst (aCons (eV 0) (aCons (eBin addD (eV 1) (eC (.int (1)))) aNil))))) aNil)) [.d (.int lo), .d (.int hi), .d (.list (one.map eL)), .d (.list (two.map eL)), .no, .no, .no] [] = .nx [.d (.int lo), .d (.int hi), .d (.list (one.map eL)), .d (.list (two.map eL)), .d (.list (zs.map .int)), .no, .no] [] := by
      have l1 := starts_ (i := 5) (rs := one) (ρ := [.d (.int lo), .d (.int hi), .d (.list (one.map eL)), .d (.list (two.map eL)), .no, .no, .no]) (cs := []) (fun x => rfl) (by omega)
      have l2 := starts_ (i := 5) (rs := two) (ρ := [.d (.int lo), .d (.int hi), .d (.list (one.map eL)), .d (.list (two.map eL)), .no, .no, .no]) (cs := []) (fun x => rfl) (by omega)
      have zz : ((one.map (·.s)).map PyData.int).length + ((two.map (·.s)).map PyData.int).length ≤ sizeLine := size_ok (by rw [List.length_map, List.length_map, List.length_map, List.length_map]; omega)
      have zz2 : ((one.map (·.s)).map PyData.int ++ (two.map (·.s)).map PyData.int).length + 2 ≤ sizeLine := size_ok (by rw [List.length_append, List.length_map, List.length_map, List.length_map, List.length_map]; omega)
      rw [List.map_append, List.map_append] at e1
      rw [List.length_append] at zz2
      generalize one.map eL = L1 at *
      generalize two.map eL = L2 at *
      generalize zs.map PyData.int = L4 at *
      generalize (one.map (·.s)).map PyData.int = L5 at *
      generalize (two.map (·.s)).map PyData.int = L6 at *
      simp at e1
      simp [l1, l2, zz, zz2, sortedSetG_list, e1]
    have s2 : sRet (eLc (iAnyM (eV 4)) (gtN 6) (op2 leD (eV 6) (eBin powD (eC (.int (10))) (eC (.int (12))))) (eBin addD (eTup (aCons (eV 6) aNil)) (eFrz (eCall F__law_at (aCons (eIf (tChn leD leD (eV 0) (eV 6) (eV 1)) (eV 2) (eV 3)) (aCons (eV 6) aNil))))) [6]) [.d (.int lo), .d (.int hi), .d (.list (one.map eL)), .d (.list (two.map eL)), .d (.list (zs.map .int)), .no, .no] [] = .rt (.own (.lst (ys.map fun s => eL ⟨s, ifF lo hi F G s, f s⟩))) [] := by
      have lc2 : _ = Res.ok (Rv.own (OC.lst (ys.map fun s => eL ⟨s, ifF lo hi F G s, f s⟩))) [] := lc
      generalize (ys.map fun s => eL ⟨s, ifF lo hi F G s, f s⟩) = L9 at *
      generalize one.map eL = L1 at *
      generalize two.map eL = L2 at *
      generalize zs.map PyData.int = L4 at *
      simp [lc2]
    rw [lc'] at s2
    unfold F__law_chosen
    rw [runG_]
    exact (congrArg (fin 0) (gSeq_of s1 s2)).trans (by simp)
  · obtain ⟨s, ms, rfl⟩ := List.mem_map.1 hr
    exact (hf s ms).1
  · rw [List.length_map]
    have := List.length_filter_le (fun z => decide (z ≤ 1000000000000)) zs
    have e : ys.length ≤ zs.length := this
    simp at zl
    omega
def eE (w : Rw) : D := .tuple [.int w.f, .int w.a, .int (endV w)]
theorem tR_cons (r : Lr) (t : List Lr) (z : Int) : ∃ l, tR (r :: t) z = ⟨r.s, l, r.p, r.a⟩ :: tR t z ∧ l = (match t with
    | [] => z
    | q :: _ => q.s - 1) := by
  cases t with
  | nil => exact ⟨z, rfl, rfl⟩
  | cons q t => exact ⟨q.s - 1, rfl, rfl⟩
theorem ends_loop {one : List Lr} (v : S) (hv : v = .d (.list (one.map eL))) : ∀ (w l1 : List Lr) (found : List D) (x2 x3 x4 x5 x6 : S), one = l1 ++ w → (∀ q ∈ tR w 1000000000000, 0 ≤ q.f ∧ q.f ≤ q.l ∧ q.l ≤ 1000000000000 ∧ q.s.natAbs ≤ 2 ^ 150) → found.length + w.length < 1000000 →
    ∃ t2 t3 t4 t5 t6, gFor (gtN 2) (gSeq (sTgt (gtT (gtsCons (gtN 3) (gtsCons (gtN 4) (gtsCons (gtN 5) gtsNil)))) (eBin ixD (eV 0) (eV 2)))
      (gSeq (sSet 6 (eIf (op2 ltD (eBin addD (eV 2) (eC (.int (1)))) (eCd lenG (aCons (eV 0) aNil))) (eBin subD (eBin ixD (eBin ixD (eV 0) (eBin addD (eV 2) (eC (.int (1))))) (eC (.int (0)))) (eC (.int (1)))) (eBin powD (eC (.int (10))) (eC (.int (12))))))
      (sExp (eMt appG (eV 1) (aCons (eTup (aCons (eV 3) (aCons (eV 4) (aCons (eBin addD (eV 4) (eBin mulD (eV 5) (eBin subD (eV 6) (eV 3)))) aNil)))) aNil))))) (upN l1.length w.length) [v, .cel 0, x2, x3, x4, x5, x6] [.lst found] = .nx [v, .cel 0, t2, t3, t4, t5, t6] [.lst (found ++ (tR w 1000000000000).map eE)]
  | [], l1, found, x2, x3, x4, x5, x6, h, hb, hl => ⟨x2, x3, x4, x5, x6, by simp [tR, upN]⟩
  | r :: t, l1, found, x2, x3, x4, x5, x6, h, hb, hl => by
    rw [List.length_cons] at hl
    obtain ⟨l, e1, e2⟩ := tR_cons r t 1000000000000
    obtain ⟨t2, t3, t4, t5, t6, e⟩ := ends_loop v hv t (l1 ++ [r]) (found ++ [eE ⟨r.s, l, r.p, r.a⟩]) (.d (.int l1.length)) (.d (.int r.s)) (.d (.int r.a)) (.d (.int r.p)) (.d (.int l)) (by rw [h]; simp) (fun q hq => hb q (by rw [e1]; simp [hq])) (by rw [List.length_append, List.length_singleton]; omega)
    rw [List.length_append, List.length_singleton] at e
    refine ⟨t2, t3, t4, t5, t6, ?_⟩
    obtain ⟨b1, b2, b3, b4⟩ := hb _ (by rw [e1]; exact List.mem_cons_self ..)
    have b1' : 0 ≤ r.s := b1
    have b2' : r.s ≤ l := b2
    have b3' : l ≤ 1000000000000 := b3
    have un : upN l1.length (r :: t).length = .int (l1.length : Int) :: upN (l1.length + 1) t.length := rfl
    have z1 : found.length ≤ sizeLine := size_ok (by omega)
    have z2 : found.length < sizeLine := size_lt (by omega)
    have a1 : atI (one.map eL) (l1.length : Int) = some (.tuple [.int r.s, .int r.a, .int r.p]) := by subst h; exact atI_of rfl (by simp; rfl)
    have ll : (one.map eL).length = l1.length + 1 + t.length := by subst h; simp; omega
    have m1 : mulD (.int r.p) (.int (l - r.s)) = some (.int (r.p * (l - r.s))) := mulB (Nat.lt_of_le_of_lt b4 (by decide)) (Nat.lt_of_le_of_lt (m := 1000000000000) (by omega) (by decide))
    have st : (gSeq (sTgt (gtT (gtsCons (gtN 3) (gtsCons (gtN 4) (gtsCons (gtN 5) gtsNil)))) (eBin ixD (eV 0) (eV 2)))
      (gSeq (sSet 6 (eIf (op2 ltD (eBin addD (eV 2) (eC (.int (1)))) (eCd lenG (aCons (eV 0) aNil))) (eBin subD (eBin ixD (eBin ixD (eV 0) (eBin addD (eV 2) (eC (.int (1))))) (eC (.int (0)))) (eC (.int (1)))) (eBin powD (eC (.int (10))) (eC (.int (12))))))
      (sExp (eMt appG (eV 1) (aCons (eTup (aCons (eV 3) (aCons (eV 4) (aCons (eBin addD (eV 4) (eBin mulD (eV 5) (eBin subD (eV 6) (eV 3)))) aNil)))) aNil))))) [v, .cel 0, .d (.int l1.length), x3, x4, x5, x6] [.lst found] = .nx [v, .cel 0, .d (.int l1.length), .d (.int r.s), .d (.int r.a), .d (.int r.p), .d (.int l)] [.lst (found ++ [eE ⟨r.s, l, r.p, r.a⟩])] := by
      subst hv
      unfold eE endV
      dsimp only
      cases t with
      | nil =>
        have c1 : ¬ (l1.length : Int) + 1 < ((one.map eL).length : Int) := by rw [ll, List.length_nil]; omega
        subst e2
        generalize one.map eL = L1 at *
        simp [a1, c1, pow12, m1, z1, z2, -powD_int, -mulD_int]
      | cons q t =>
        have c1 : (l1.length : Int) + 1 < ((one.map eL).length : Int) := by rw [ll, List.length_cons]; omega
        have a2 : atI (one.map eL) ((l1.length : Int) + 1) = some (.tuple [.int q.s, .int q.a, .int q.p]) := by
          subst h
          exact atI_of (n := l1.length + 1) (by omega) (by simp; rfl)
        have e2' : l = q.s - 1 := e2
        subst e2'
        generalize one.map eL = L1 at *
        simp [a1, a2, c1, m1, z1, z2, -mulD_int]
    rw [un, gFor_cons, e1]
    simp only [gtN_, List.set_cons_succ, List.set_cons_zero]
    rw [st, List.map_cons]
    have e3 : found ++ (eE ⟨r.s, l, r.p, r.a⟩ :: (tR t 1000000000000).map eE) = found ++ [eE ⟨r.s, l, r.p, r.a⟩] ++ (tR t 1000000000000).map eE := by simp
    rw [e3]
    exact e
theorem LL.tb {rs : List Lr} {F : Int → Int} {B : Nat} (h : LL rs F B) (hB : B ≤ 2 ^ 150) : ∀ q ∈ tR rs 1000000000000, 0 ≤ q.f ∧ q.f ≤ q.l ∧ q.l ≤ 1000000000000 ∧ q.s.natAbs ≤ 2 ^ 150 := fun q hq => by
  obtain ⟨a, b, c, _⟩ := Rep.mem h.r q hq
  refine ⟨a, b, c, ?_⟩
  have pb : ∀ (l : List Lr) (z : Int), (∀ r ∈ l, r.p.natAbs ≤ B) → ∀ q ∈ tR l z, q.s.natAbs ≤ B := fun l => by
    induction l with
    | nil => intro z _ q hq; cases hq
    | cons r t ih =>
      intro z hp q hq
      obtain ⟨l, e1, _⟩ := tR_cons r t z
      rw [e1] at hq
      rcases List.mem_cons.1 hq with rfl | hq
      · exact hp r (by simp)
      · exact ih z (fun x hx => hp x (by simp [hx])) q hq
  exact Nat.le_trans (pb rs _ h.p q hq) hB
theorem law_ends_ {rs : List Lr} {F : Int → Int} {B : Nat} (h : LL rs F B) (hB : B ≤ 2 ^ 150) (hl : rs.length < 1000000) : F__law_ends [.d (.list (rs.map eL))] [] = .ok (.own (.lst ((tR rs 1000000000000).map eE))) [] := by
  obtain ⟨t2, t3, t4, t5, t6, e⟩ := ends_loop (.d (.list (rs.map eL))) rfl rs [] [] .no .no .no .no .no rfl (h.tb hB) (by simpa using hl)
  have s1 : sNew 1 (eLst aNil) [.d (.list (rs.map eL)), .no, .no, .no, .no, .no, .no] [] = .nx [.d (.list (rs.map eL)), .cel 0, .no, .no, .no, .no, .no] [.lst []] := by simp
  have ir : iRng (eCd lenG (aCons (eV 0) aNil)) [.d (.list (rs.map eL)), .cel 0, .no, .no, .no, .no, .no] [.lst []] = .ok (rngD 0 rs.length) [.lst []] := iRngNat (by
    have ll : (rs.map eL).length = rs.length := List.length_map _
    rw [← ll]
    generalize rs.map eL = L4 at *
    simp) (by omega)
  rw [rngD_up] at ir
  have s2 := sFor_of ir e
  have s3 : sRet (eRv (eV 1)) [.d (.list (rs.map eL)), .cel 0, t2, t3, t4, t5, t6] [.lst ((tR rs 1000000000000).map eE)] = .rt (.cel 0) [.lst ((tR rs 1000000000000).map eE)] := by simp
  unfold F__law_ends
  rw [runG_]
  exact (congrArg (fin 0) (gSeq_of s1 (gSeq_of s2 s3))).trans (by simp [fin_cel])
def bigI (x : Int) : Bool := decide (1000000000000000 < if x < 0 then -x else x)
def bigE (w : Rw) : Bool := bigI w.a || bigI (endV w)
theorem bigI_no (x : Int) : bigI x = false ↔ x.natAbs ≤ 1000000000000000 := by
  unfold bigI
  rw [decide_eq_false_iff_not]
  split <;> omega
theorem bounded_iff {rs : List Lr} {F : Int → Int} {B : Nat} (h : LL rs F B) : ((tR rs 1000000000000).filter bigE) = [] ↔ Bv F 1000000000000000 := by
  have mem := Rep.mem h.r
  rw [List.filter_eq_nil_iff]
  constructor
  · intro k x a b
    obtain ⟨q, m, p1, p2⟩ := Rep.find h.r x a b
    have kq := k q m
    rw [Bool.not_eq_true] at kq
    unfold bigE at kq
    obtain ⟨k1, k2⟩ := Bool.or_eq_false_iff.1 kq
    rw [bigI_no] at k1 k2
    have eb := ends_bd p1 p2
    rw [(mem q m).2.2.2 x p1 p2]
    omega
  · intro k q m z
    obtain ⟨a, b, c, d⟩ := mem q m
    have e1 := d q.f (Int.le_refl _) b
    rw [Int.sub_self, Int.mul_zero, Int.add_zero] at e1
    have e2 : F q.l = endV q := d q.l b (Int.le_refl _)
    have k1 := k q.f a (by omega)
    have k2 := k q.l (by omega) c
    rw [e1] at k1
    rw [e2] at k2
    unfold bigE at z
    rw [(bigI_no _).2 k1, (bigI_no _).2 k2] at z
    cases z
/-- what the law finds of a tree -/
def Llf (t : Int) (p : Py) (r : Res Rv) : Prop := (okb t p ∧ ∃ rs, r = .ok (.d (.list (rs.map eL))) [] ∧ LL rs (vf t p) (1000 ^ dep p) ∧ rs.length ≤ cnt p) ∨ (¬ okb t p ∧ r = .ok (.d .none) [])
theorem LL.congr {rs : List Lr} {F G : Int → Int} {B C : Nat} (h : LL rs F B) (e : ∀ x, 0 ≤ x → x ≤ 1000000000000 → F x = G x) (hBC : B ≤ C) : LL rs G C := ⟨Rep.congr h.r e, fun r hr => Nat.le_trans (h.p r hr) hBC⟩
abbrev pieT : G := (gSeq (sIf (tOrM (op1 isnD (eV 2)) (op2 gtD (eCd lenG (aCons (eFrz (eLc (iAnyM (eFrz (eCall F__law_ends (aCons (eV 2) aNil)))) (gtN 9) (tOrM (op2 gtD (eCd absG (aCons (eBin ixD (eV 9) (eC (.int (1)))) aNil)) (eBin powD (eC (.int (10))) (eC (.int (15))))) (op2 gtD (eCd absG (aCons (eBin ixD (eV 9) (eC (.int (2)))) aNil)) (eBin powD (eC (.int (10))) (eC (.int (15)))))) (eV 9) [9])) aNil)) (eC (.int (0))))) (sRet (eRv (eC .none))) gNil) (sRet (eRv (eV 2))))
theorem big_one {f : List S → M S} {ρ : List S} {x : Int} (h : f ρ [] = .ok (.d (.int x)) []) : op2 gtD (eCd absG (aCons f aNil)) (eBin powD (eC (.int (10))) (eC (.int (15)))) ρ [] = .ok (bigI x) [] := by
  unfold bigI
  generalize hy : (if x < 0 then -x else x : Int) = y
  have a : absG [.int x] = some (.int y) := by rw [absG_, hy]
  generalize hm : (1000000000000000 : Int) = m
  have pw : powD (.int 10) (.int 15) = some (.int m) := by rw [pow15, hm]
  simp [h, a, pw, -powD_int, -absG_]
theorem big_test {ρ : List S} {w : Rw} (h : ρ[9]? = some (.d (eE w))) : (tOrM (op2 gtD (eCd absG (aCons (eBin ixD (eV 9) (eC (.int (1)))) aNil)) (eBin powD (eC (.int (10))) (eC (.int (15))))) (op2 gtD (eCd absG (aCons (eBin ixD (eV 9) (eC (.int (2)))) aNil)) (eBin powD (eC (.int (10))) (eC (.int (15)))))) ρ [] = .ok (bigE w) [] := by
  have e : eE w = .tuple [.int w.f, .int w.a, .int (endV w)] := rfl
  rw [e] at h
  have t1 := big_one (f := eBin ixD (eV 9) (eC (.int (1)))) (ρ := ρ) (x := w.a) (by simp [h])
  have t2 := big_one (f := eBin ixD (eV 9) (eC (.int (2)))) (ρ := ρ) (x := endV w) (by simp [h])
  unfold bigE
  show bnd _ _ _ = _
  rw [bnd_ok t1]
  cases bigI w.a
  · exact t2
  · rfl
theorem len_of {f : List S → M S} {ρ : List S} {xs : List D} (h : f ρ [] = .ok (.d (.list xs)) []) : op2 gtD (eCd lenG (aCons f aNil)) (eC (.int (0))) ρ [] = .ok (decide (0 < xs.length)) [] := by
  simp [h]
theorem frz_of {f : List S → M Rv} {ρ : List S} {xs : List D} (h : f ρ [] = .ok (.own (.lst xs)) []) : eFrz f ρ [] = .ok (.d (.list xs)) [] := by
  simp [h]
theorem eCall_own {F : List S → M Rv} {g : List S → M (List S)} {ρ ss : List S} {cs cs1 : Store} {o : OC} (hg : g ρ cs = .ok ss cs) (hn : noCel ss = true) (h : F ss [] = .ok (.own o) cs1) : eCall F g ρ cs = .ok (.own o) cs := by
  rw [eCall_, bnd_ok hg, callP_, if_pos hn, h]
theorem eCall_d {F : List S → M Rv} {g : List S → M (List S)} {ρ ss : List S} {cs cs1 : Store} {o : D} (hg : g ρ cs = .ok ss cs) (hn : noCel ss = true) (h : F ss [] = .ok (.d o) cs1) : eCall F g ρ cs = .ok (.d o) cs := by
  rw [eCall_, bnd_ok hg, callP_, if_pos hn, h]
theorem iAny_of {f : List S → M S} {ρ : List S} {cs : Store} {xs : List D} (h : f ρ cs = .ok (.d (.list xs)) cs) : iAnyM f ρ cs = .ok xs cs := by
  rw [iAnyM_, bnd_ok h]; rfl
theorem elc_of {it : List S → M (List D)} {tg : D → List S → Option (List S)} {t : List S → M Bool} {f : List S → M S} {vs : List Nat} {ρ : List S} {xs : List D} {r : Res Rv} (h : it ρ [] = .ok xs []) (h2 : lcL tg t f (wipeS ρ vs) xs [] [] = r) : eLc it tg t f vs ρ [] = r := by
  rw [eLc_, bnd_ok h]; exact h2
theorem tOr_no {f g : List S → M Bool} {ρ : List S} {r : Res Bool} (h : f ρ [] = .ok false []) (h2 : g ρ [] = r) : tOrM f g ρ [] = r := by
  rw [tOrM_, bnd_ok h]; exact h2
theorem pie_tail {t : Int} {p : Py} {rs : List Lr} {B : Nat} (hB : B ≤ 2 ^ 150) (v0 v1 v3 v4 v5 v6 v7 v8 v9 : S) (hk : kok t p) (h : LL rs (vf t p) B) (hl : rs.length < 100000) :
    ∃ o, pieT [v0, v1, .d (.list (rs.map eL)), v3, v4, v5, v6, v7, v8, v9] [] = .rt o [] ∧ fin 0 (.rt o []) = .ok o [] ∧ ((okb t p ∧ o = .d (.list (rs.map eL))) ∨ (¬ okb t p ∧ o = .d .none)) := by
  have le := law_ends_ h hB (by omega)
  have bi := bounded_iff h
  have tl : (tR rs 1000000000000).length < 100000 := by rw [tR_len]; exact hl
  have lc := lcMap (cs := []) (tg := gtN 9) (t := tOrM (op2 gtD (eCd absG (aCons (eBin ixD (eV 9) (eC (.int (1)))) aNil)) (eBin powD (eC (.int (10))) (eC (.int (15))))) (op2 gtD (eCd absG (aCons (eBin ixD (eV 9) (eC (.int (2)))) aNil)) (eBin powD (eC (.int (10))) (eC (.int (15)))))) (f := eV 9) (ρ := [v0, v1, .d (.list (rs.map eL)), v3, v4, v5, v6, v7, v8, .no]) eE bigE eE (tR rs 1000000000000) [] (fun w _ => by
    exact ⟨[v0, v1, .d (.list (rs.map eL)), v3, v4, v5, v6, v7, v8, .d (eE w)], rfl, big_test rfl, fun _ => by simp⟩) (by simp; omega)
  rw [List.nil_append] at lc
  generalize (tR rs 1000000000000).map eE = LE at *
  generalize rs.map eL = L at *
  have n1 : op1 isnD (eV 2) [v0, v1, .d (.list L), v3, v4, v5, v6, v7, v8, v9] [] = .ok false [] := by simp
  have it : iAnyM (eFrz (eCall F__law_ends (aCons (eV 2) aNil))) [v0, v1, .d (.list L), v3, v4, v5, v6, v7, v8, v9] [] = .ok LE [] := iAny_of (frz_of (eCall_own (g := aCons (eV 2) aNil) (ss := [.d (.list L)]) (by simp) rfl le))
  have n2 := tOr_no n1 (len_of (frz_of (elc_of (vs := [9]) it lc)))
  by_cases c : Bv (vf t p) 1000000000000000
  · rw [bi.2 c] at n2
    refine ⟨.d (.list L), ?_, rfl, .inl ⟨(okb_iff p).2 ⟨hk, c⟩, rfl⟩⟩
    exact gSeq_of (sIf_no n2 rfl) (by simp)
  · have ne : (tR rs 1000000000000).filter bigE ≠ [] := fun z => c (bi.1 z)
    refine ⟨.d .none, ?_, rfl, .inr ⟨fun z => c z.bv, rfl⟩⟩
    have lp : 0 < (((tR rs 1000000000000).filter bigE).map eE).length := by
      rw [List.length_map]
      exact List.length_pos_iff.2 ne
    rw [decide_eq_true lp] at n2
    have s1 := sIf_yes (g := sRet (eRv (eC .none))) (h := gNil) (o := .rt (.d .none) []) n2 (by simp)
    unfold pieT
    rw [gSeq_, s1]
theorem pie_none (v0 v1 v3 v4 v5 v6 v7 v8 v9 : S) : pieT [v0, v1, .d .none, v3, v4, v5, v6, v7, v8, v9] [] = .rt (.d .none) [] := by simp
theorem enc_lay : ∀ p, (enc p).canLay0 = true ∧ (enc p).depth ≤ dep p
  | .loss => by simp [enc, PyData.canLay0, PyData.depth]
  | .sum => by simp [enc, PyData.canLay0, PyData.depth]
  | .num k => by simp [enc, PyData.canLay0, PyData.depth]
  | .times k p => by
    have e := enc_lay p
    simp [enc, PyData.canLay0, PyData.canLayAll0, PyData.depth, PyData.depthAll, dep, e]
  | .over p a b => by
    have e := enc_lay p
    simp [enc, PyData.canLay0, PyData.canLayAll0, PyData.depth, PyData.depthAll, dep, e]
  | .iff a b p q => by
    have e := enc_lay p
    have f := enc_lay q
    simp [enc, PyData.canLay0, PyData.canLayAll0, PyData.depth, PyData.depthAll, dep, e, f]
    omega
  | .bin o p q => by
    have e := enc_lay p
    have f := enc_lay q
    simp [enc, PyData.canLay0, PyData.canLayAll0, PyData.depth, PyData.depthAll, dep, e, f]
    exact ⟨by cases o <;> simp [Op.nm], by omega⟩
theorem enc_sh {p : Py} (h : dep p ≤ 60) : SeqAt.shaped (enc p) = true := by
  obtain ⟨a, b⟩ := enc_lay p
  simp [SeqAt.shaped, a]; omega
abbrev pieH (n : Nat) : G := (sIf (op2 eqD (eV 0) (eC (.str "loss"))) (sSet 2 (eFrz (eLst (aCons (eTup (aCons (eC (.int (0))) (aCons (eC (.int (0))) (aCons (eC (.int (1))) aNil)))) aNil)))) (sIf (op2 eqD (eV 0) (eC (.str "sum"))) (sSet 2 (eFrz (eLst (aCons (eTup (aCons (eC (.int (0))) (aCons (eV 1) (aCons (eC (.int (0))) aNil)))) aNil)))) (sIf (tT (eIsa "int" (eV 0))) (sSet 2 (eFrz (eLst (aCons (eTup (aCons (eC (.int (0))) (aCons (eV 0) (aCons (eC (.int (0))) aNil)))) aNil)))) (sIf (op2 eqD (eBin ixD (eV 0) (eC (.int (0)))) (eC (.str "times"))) (gSeq (sSet 3 (eFrz (eCall (F__law_pieces n) (aCons (eBin ixD (eV 0) (eC (.int (2)))) (aCons (eV 1) aNil)))))
            (sSet 2 (eIf (op1 isnD (eV 3)) (eC .none) (eFrz (eLc (iAnyM (eV 3)) (gtT (gtsCons (gtN 6) (gtsCons (gtN 7) (gtsCons (gtN 8) gtsNil)))) tYesM (eTup (aCons (eV 6) (aCons (eBin mulD (eBin ixD (eV 0) (eC (.int (1)))) (eV 7)) (aCons (eBin mulD (eBin ixD (eV 0) (eC (.int (1)))) (eV 8)) aNil)))) [6, 7, 8]))))) (sIf (op2 eqD (eBin ixD (eV 0) (eC (.int (0)))) (eC (.str "over"))) (gSeq (sSet 3 (eFrz (eCall (F__law_pieces n) (aCons (eBin ixD (eV 0) (eC (.int (1)))) (aCons (eV 1) aNil)))))
              (gSeq (sSet 2 (eC .none))
              (sIf (tNotM (op1 isnD (eV 3))) (gSeq (sSet 4 (eFrz (eCall F__law_joined (aCons (eC (.str "max")) (aCons (eFrz (eLc (iAnyM (eV 3)) (gtT (gtsCons (gtN 6) (gtsCons (gtN 7) (gtsCons (gtN 8) gtsNil)))) tYesM (eTup (aCons (eV 6) (aCons (eBin subD (eV 7) (eBin ixD (eV 0) (eC (.int (3))))) (aCons (eV 8) aNil)))) [6, 7, 8])) (aCons (eFrz (eLst (aCons (eTup (aCons (eC (.int (0))) (aCons (eC (.int (0))) (aCons (eC (.int (0))) aNil)))) aNil))) aNil))))))
                (sSet 2 (eFrz (eCall F__law_joined (aCons (eC (.str "min")) (aCons (eV 4) (aCons (eFrz (eLst (aCons (eTup (aCons (eC (.int (0))) (aCons (eBin ixD (eV 0) (eC (.int (2)))) (aCons (eC (.int (0))) aNil)))) aNil))) aNil))))))) gNil))) (sIf (op2 eqD (eBin ixD (eV 0) (eC (.int (0)))) (eC (.str "if"))) (gSeq (sSet 3 (eFrz (eCall (F__law_pieces n) (aCons (eBin ixD (eV 0) (eC (.int (3)))) (aCons (eV 1) aNil)))))
                (gSeq (sSet 5 (eFrz (eCall (F__law_pieces n) (aCons (eBin ixD (eV 0) (eC (.int (4)))) (aCons (eV 1) aNil)))))
                (sSet 2 (eIf (tOrM (op1 isnD (eV 3)) (op1 isnD (eV 5))) (eC .none) (eFrz (eCall F__law_chosen (aCons (eBin ixD (eV 0) (eC (.int (1)))) (aCons (eBin ixD (eV 0) (eC (.int (2)))) (aCons (eV 3) (aCons (eV 5) aNil)))))))))) (gSeq (sSet 3 (eFrz (eCall (F__law_pieces n) (aCons (eBin ixD (eV 0) (eC (.int (1)))) (aCons (eV 1) aNil)))))
                (gSeq (sSet 5 (eFrz (eCall (F__law_pieces n) (aCons (eBin ixD (eV 0) (eC (.int (2)))) (aCons (eV 1) aNil)))))
                (sSet 2 (eIf (tOrM (op1 isnD (eV 3)) (op1 isnD (eV 5))) (eC .none) (eFrz (eCall F__law_joined (aCons (eBin ixD (eV 0) (eC (.int (0)))) (aCons (eV 3) (aCons (eV 5) aNil)))))))))))))))
theorem pie_go {t : Int} {p : Py} {rs : List Lr} (n : Nat) (v3 v4 v5 v6 v7 v8 v9 : S) (hd : dep p ≤ 15) (hc : cnt p < 100000) (hk : kok t p) (h : LL rs (vf t p) (1000 ^ dep p)) (hl : rs.length ≤ cnt p) (e : pieH n [.d (enc p), .d (.int t), .no, .no, .no, .no, .no, .no, .no, .no] [] = .nx [.d (enc p), .d (.int t), .d (.list (rs.map eL)), v3, v4, v5, v6, v7, v8, v9] []) : Llf t p (F__law_pieces (n + 1) [.d (enc p), .d (.int t)] []) := by
  have hB : 1000 ^ dep p ≤ 2 ^ 150 := Nat.le_trans (Nat.pow_le_pow_right (by decide) hd) (by decide)
  obtain ⟨o, e1, e2, e3⟩ := pie_tail hB (.d (enc p)) (.d (.int t)) v3 v4 v5 v6 v7 v8 v9 hk h (by omega)
  have q : F__law_pieces (n + 1) [.d (enc p), .d (.int t)] [] = .ok o [] := by
    unfold F__law_pieces
    rw [runG_]
    exact (congrArg (fin 0) (gSeq_of e e1)).trans e2
  rw [q]
  rcases e3 with ⟨a, rfl⟩ | ⟨a, rfl⟩
  · exact .inl ⟨a, rs, rfl, h, hl⟩
  · exact .inr ⟨a, rfl⟩
theorem pie_stop {t : Int} {p : Py} (n : Nat) (v3 v4 v5 v6 v7 v8 v9 : S) (hk : ¬ kok t p) (e : pieH n [.d (enc p), .d (.int t), .no, .no, .no, .no, .no, .no, .no, .no] [] = .nx [.d (enc p), .d (.int t), .d .none, v3, v4, v5, v6, v7, v8, v9] []) : Llf t p (F__law_pieces (n + 1) [.d (enc p), .d (.int t)] []) := by
  refine .inr ⟨fun z => hk ((okb_iff p).1 z).1, ?_⟩
  unfold F__law_pieces
  rw [runG_]
  exact (congrArg (fin 0) (gSeq_of e (pie_none _ _ _ _ _ _ _ _ _))).trans rfl
theorem lrep_mp {F G : Int → Int} (g : Lr → Lr) (hs : ∀ r, (g r).s = r.s) (hv : ∀ (r : Lr) (x : Int), F x = r.a + r.p * (x - r.s) → G x = (g r).a + (g r).p * (x - r.s)) : ∀ (rs : List Lr) (x0 z : Int), LRep rs x0 z F → LRep (rs.map g) x0 z G
  | [], _, _, h => h
  | [r], x0, z, ⟨h1, h2, h3, h4⟩ => ⟨(hs r).trans h1, by show (g r).s ≤ z; rw [hs]; exact h2, fun x a b => by
      have a' : (g r).s ≤ x := a
      show G x = (g r).a + (g r).p * (x - (g r).s)
      rw [hs] at a' ⊢
      exact hv r x (h3 x a' b), h4⟩
  | r :: q :: t, x0, z, ⟨h1, h2, h3, h4⟩ => ⟨(hs r).trans h1, by show (g r).s ≤ (g q).s - 1; rw [hs, hs]; exact h2, fun x a b => by
      have a' : (g r).s ≤ x := a
      have b' : x ≤ (g q).s - 1 := b
      show G x = (g r).a + (g r).p * (x - (g r).s)
      rw [hs] at a' b' ⊢
      exact hv r x (h3 x a' b'), by
      have ih := lrep_mp g hs hv (q :: t) (q.s - 1 + 1) z h4
      show Rep (tR ((q :: t).map g) z) ((g q).s - 1 + 1) z G
      rw [hs]; exact ih⟩
theorem tR_mem : ∀ (rs : List Lr) (z : Int), ∀ r ∈ rs, ∃ q ∈ tR rs z, q.f = r.s ∧ q.a = r.a ∧ q.s = r.p
  | [r], z, x, h => by rw [List.mem_singleton.1 h]; exact ⟨_, List.mem_singleton.2 rfl, rfl, rfl, rfl⟩
  | r :: q :: t, z, x, h => by
    rcases List.mem_cons.1 h with rfl | h
    · exact ⟨_, List.mem_cons_self .., rfl, rfl, rfl⟩
    · obtain ⟨y, m, e⟩ := tR_mem (q :: t) z x h
      exact ⟨y, List.mem_cons_of_mem _ m, e⟩
theorem LL.av {rs : List Lr} {F : Int → Int} {B : Nat} (h : LL rs F B) : ∀ r ∈ rs, F r.s = r.a := fun r hr => by
  obtain ⟨q, m, e1, e2, e3⟩ := tR_mem rs 1000000000000 r hr
  obtain ⟨a, b, c, d⟩ := Rep.mem h.r q m
  have := d q.f (Int.le_refl _) b
  rw [Int.sub_self, Int.mul_zero, Int.add_zero, e1, e2] at this
  exact this
theorem ll_one {v k : Int} {F : Int → Int} (h : ∀ x, F x = v + k * x) {B : Nat} (hk : k.natAbs ≤ B) : LL [⟨0, v, k⟩] F B :=
  ⟨⟨rfl, by show (0 : Int) ≤ 1000000000000; decide, fun x a b => by rw [h]; show v + k * x = v + k * (x - 0); rw [Int.sub_zero], rfl⟩, fun r hr => by rw [List.mem_singleton.1 hr]; exact hk⟩
theorem filT (l : List Lr) : l.filter (fun _ => true) = l := List.filter_eq_self.2 fun _ _ => rfl
theorem pow_dep (n : Nat) : 1 ≤ 1000 ^ n := Nat.one_le_pow _ _ (by decide)
theorem law_pieces_ (t : Int) (ht : 0 ≤ t ∧ t ≤ 1000000000000) : ∀ (p : Py) (n : Nat), Good p → dep p ≤ 15 → dep p < n → cnt p < 3500 → Llf t p (F__law_pieces n [.d (enc p), .d (.int t)] [])
  | p, 0, _, _, h, _ => by omega
  | .loss, n + 1, g, hd, hn, hc => by
    refine pie_go (rs := [⟨0, 0, 1⟩]) n .no .no .no .no .no .no .no hd (by omega) trivial (ll_one (fun x => by show x = 0 + 1 * x; omega) (by decide)) (Nat.le_refl _) ?_
    simp [enc, eL]
  | .sum, n + 1, g, hd, hn, hc => by
    refine pie_go (rs := [⟨0, t, 0⟩]) n .no .no .no .no .no .no .no hd (by omega) trivial (ll_one (fun x => by show t = t + 0 * x; omega) (Nat.zero_le _)) (Nat.le_refl _) ?_
    simp [enc, eL]
  | .num k, n + 1, g, hd, hn, hc => by
    refine pie_go (rs := [⟨0, k, 0⟩]) n .no .no .no .no .no .no .no hd (by omega) trivial (ll_one (fun x => by show k = k + 0 * x; omega) (Nat.zero_le _)) (Nat.le_refl _) ?_
    simp [enc, eL]
  | .times k p, n + 1, g, hd, hn, hc => by
    have g' : 0 ≤ k ∧ k ≤ 1000 ∧ Good p := g
    have hc' : cnt p < 3500 := hc
    have sh : SeqAt.shaped (.tuple [.str "times", .int k, enc p]) = true := enc_sh (p := .times k p) (by omega)
    have hd0 := hd
    simp only [dep] at hd hn
    have hB : 1000 ^ dep p ≤ 2 ^ 150 := Nat.le_trans (Nat.pow_le_pow_right (by decide) (show dep p ≤ 15 by omega)) (by decide)
    rcases law_pieces_ t ht p n g'.2.2 (by omega) (by omega) hc' with ⟨hk, rs, e, h, hl⟩ | ⟨hk, e⟩
    · have mp : LL (rs.map fun r => ⟨r.s, k * r.a, k * r.p⟩) (vf t (.times k p)) (1000 ^ dep (.times k p)) := ⟨lrep_mp (fun r => ⟨r.s, k * r.a, k * r.p⟩) (fun _ => rfl) (fun r x e => by
          show k * val t x p = k * r.a + k * r.p * (x - r.s)
          have e' : val t x p = r.a + r.p * (x - r.s) := e
          rw [e', Int.mul_add, Int.mul_assoc]) rs _ _ h.r, fun r hr => by
          obtain ⟨q, hq, rfl⟩ := List.mem_map.1 hr
          have := h.p q hq
          show (k * q.p).natAbs ≤ 1000 ^ (dep p + 1)
          rw [Int.natAbs_mul, Nat.pow_succ, Nat.mul_comm]
          exact Nat.mul_le_mul this (by omega)⟩
      refine pie_go n (.d (.list (rs.map eL))) .no .no .no .no .no .no hd0 (by omega) hk mp (by rw [List.length_map]; exact hl) ?_
      have lc := lcMap (cs := []) (tg := gtT (gtsCons (gtN 6) (gtsCons (gtN 7) (gtsCons (gtN 8) gtsNil)))) (t := tYesM) (f := eTup (aCons (eV 6) (aCons (eBin mulD (eBin ixD (eV 0) (eC (.int (1)))) (eV 7)) (aCons (eBin mulD (eBin ixD (eV 0) (eC (.int (1)))) (eV 8)) aNil)))) (ρ := [.d (enc (.times k p)), .d (.int t), .no, .d (.list (rs.map eL)), .no, .no, .no, .no, .no, .no]) eL (fun _ => true) (fun r => .tuple [.int r.s, .int (k * r.a), .int (k * r.p)]) rs [] (fun r hr => by
        refine ⟨[.d (enc (.times k p)), .d (.int t), .no, .d (.list (rs.map eL)), .no, .no, .d (.int r.s), .d (.int r.a), .d (.int r.p), .no], rfl, rfl, fun _ => ?_⟩
        have i1 := (h.in r hr)
        have b1 := hk.bv r.s i1.1 i1.2
        have a1 := h.av r hr
        have m1 : mulD (.int k) (.int r.a) = some (.int (k * r.a)) := mulB (Nat.lt_of_le_of_lt (m := 1000) (by omega) (by decide)) (Nat.lt_of_le_of_lt (m := 1000000000000000) (by rw [← a1]; exact b1) (by decide))
        have m2 : mulD (.int k) (.int r.p) = some (.int (k * r.p)) := mulB (Nat.lt_of_le_of_lt (m := 1000) (by omega) (by decide)) (Nat.lt_of_le_of_lt (Nat.le_trans (h.p r hr) hB) (by decide))
        generalize rs.map eL = L at *
        simp [enc, m1, m2, -mulD_int]) (by simp; omega)
      rw [List.map_map]
      have cl := eCall_d (F := F__law_pieces n) (g := aCons (eBin ixD (eV 0) (eC (.int (2)))) (aCons (eV 1) aNil)) (ρ := [.d (enc (.times k p)), .d (.int t), .no, .no, .no, .no, .no, .no, .no, .no]) (ss := [.d (enc p), .d (.int t)]) (cs := []) (by simp [enc]) rfl e
      have z : (eL ∘ fun (r : Lr) => (⟨r.s, k * r.a, k * r.p⟩ : Lr)) = fun (r : Lr) => (.tuple [.int r.s, .int (k * r.a), .int (k * r.p)] : D) := rfl
      rw [z]
      simp only [List.nil_append, filT] at lc
      generalize (rs.map fun (r : Lr) => (.tuple [.int r.s, .int (k * r.a), .int (k * r.p)] : D)) = L2 at *
      generalize rs.map eL = L at *
      simp only [enc] at lc ⊢
      simp [sh, e, lc]
    · refine pie_stop n (.d .none) .no .no .no .no .no .no hk ?_
      simp only [enc]
      simp [sh, e]
  | .over p a b, n + 1, g, hd, hn, hc => by
    have g' : 0 ≤ a ∧ a ≤ 1000000000000 ∧ 0 ≤ b ∧ b ≤ 1000000000000 ∧ Good p := g
    have hc' : 4 * cnt p + 6 < 3500 := hc
    have sh : SeqAt.shaped (.tuple [.str "over", enc p, .int a, .int b]) = true := enc_sh (p := .over p a b) (by omega)
    have hd0 := hd
    simp only [dep] at hd hn
    have hp1 := pow_dep (dep p)
    have hB : 1000 ^ dep p * 4 ≤ 2 ^ 150 := Nat.le_trans (Nat.mul_le_mul_right 4 (Nat.pow_le_pow_right (by decide) (show dep p ≤ 14 by omega))) (by decide)
    rcases law_pieces_ t ht p n g'.2.2.2.2 (by omega) (by omega) (by omega) with ⟨hk, rs, e, h, hl⟩ | ⟨hk, e⟩
    · have mp : LL (rs.map fun r => ⟨r.s, r.a - b, r.p⟩) (fun x => vf t p x - b) (1000 ^ dep p) := ⟨lrep_mp (fun r => ⟨r.s, r.a - b, r.p⟩) (fun _ => rfl) (fun r x e => by
          show vf t p x - b = r.a - b + r.p * (x - r.s)
          rw [e]; omega) rs _ _ h.r, fun r hr => by
          obtain ⟨q, hq, rfl⟩ := List.mem_map.1 hr
          exact h.p q hq⟩
      have bv1 : Bv (fun x => vf t p x - b) (2 ^ 80) := fun x c d => by
        have := hk.bv x c d
        show (vf t p x - b).natAbs ≤ _
        omega
      obtain ⟨r2, e2, h2, l2⟩ := law_joined_ mp (ll_one (v := 0) (k := 0) (F := fun _ => 0) (fun x => by omega) (Nat.zero_le _)) (by omega) (by rw [List.length_map]; simp; omega) bv1 (const_bv (by decide)) .max
      rw [List.length_map] at l2
      simp at l2
      have bv2 : Bv (fun x => Op.ap .max (vf t p x - b) 0) (2 ^ 80) := fun x c d => by
        have := bv1 x c d
        show (if 0 > vf t p x - b then 0 else vf t p x - b).natAbs ≤ 2 ^ 80
        split
        · decide
        · exact this
      obtain ⟨r3, e3, h3, l3⟩ := law_joined_ h2 (ll_one (v := a) (k := 0) (F := fun _ => a) (fun x => by omega) (Nat.zero_le _)) (by omega) (by simp; omega) bv2 (const_bv (Nat.le_trans (show a.natAbs ≤ 1000000000000 by omega) (by decide))) .min
      simp at l3
      refine pie_go n (.d (.list (rs.map eL))) (.d (.list (r2.map eL))) .no .no .no .no .no hd0 (by omega) hk (h3.congr (fun x _ _ => ?_) ?_) (by show _ ≤ 4 * cnt p + 6; omega) ?_
      · show (if a < (if 0 > val t x p - b then 0 else val t x p - b) then a else (if 0 > val t x p - b then 0 else val t x p - b)) = val t x (.over p a b)
        rfl
      · show 2 * (2 * 1000 ^ dep p) ≤ 1000 ^ (dep p + 1)
        rw [Nat.pow_succ]; omega
      · have lc := lcMap (cs := []) (tg := gtT (gtsCons (gtN 6) (gtsCons (gtN 7) (gtsCons (gtN 8) gtsNil)))) (t := tYesM) (f := eTup (aCons (eV 6) (aCons (eBin subD (eV 7) (eBin ixD (eV 0) (eC (.int (3))))) (aCons (eV 8) aNil)))) (ρ := [.d (enc (.over p a b)), .d (.int t), .d .none, .d (.list (rs.map eL)), .no, .no, .no, .no, .no, .no]) eL (fun _ => true) (fun r => .tuple [.int r.s, .int (r.a - b), .int r.p]) rs [] (fun r hr => by
          refine ⟨[.d (enc (.over p a b)), .d (.int t), .d .none, .d (.list (rs.map eL)), .no, .no, .d (.int r.s), .d (.int r.a), .d (.int r.p), .no], rfl, rfl, fun _ => ?_⟩
          generalize rs.map eL = L at *
          simp [enc]) (by simp; omega)
        have z : (rs.map fun (r : Lr) => (⟨r.s, r.a - b, r.p⟩ : Lr)).map eL = rs.map fun (r : Lr) => (.tuple [.int r.s, .int (r.a - b), .int r.p] : D) := by rw [List.map_map]; rfl
        rw [z] at e2
        simp only [List.nil_append, filT] at lc
        have c0 : ([⟨0, 0, 0⟩] : List Lr).map eL = [.tuple [.int 0, .int 0, .int 0]] := rfl
        have c1 : ([⟨0, a, 0⟩] : List Lr).map eL = [.tuple [.int 0, .int a, .int 0]] := rfl
        rw [c0] at e2
        rw [c1] at e3
        have n1 : Op.nm .max = "max" := rfl
        have n2 : Op.nm .min = "min" := rfl
        rw [n1] at e2
        rw [n2] at e3
        generalize (rs.map fun (r : Lr) => (.tuple [.int r.s, .int (r.a - b), .int r.p] : D)) = L2 at *
        generalize rs.map eL = L at *
        generalize r2.map eL = L3 at *
        generalize r3.map eL = L4 at *
        simp only [enc] at lc ⊢
        simp [sh, e, lc, e2, e3]
    · refine pie_stop n (.d .none) .no .no .no .no .no .no hk ?_
      simp only [enc]
      simp [sh, e]
  | .iff a b p q, n + 1, g, hd, hn, hc => by
    have g' : 0 ≤ a ∧ a ≤ b ∧ b ≤ 1000000000000 ∧ Good p ∧ Good q := g
    have hc' : cnt p + 2 * cnt q + 2 < 3500 := hc
    have sh : SeqAt.shaped (.tuple [.str "if", .int a, .int b, enc p, enc q]) = true := enc_sh (p := .iff a b p q) (by omega)
    have hd0 := hd
    simp only [dep] at hd hn
    have hm1 : 1000 ^ dep p ≤ 1000 ^ max (dep p) (dep q) := Nat.pow_le_pow_right (by decide) (by omega)
    have hm2 : 1000 ^ dep q ≤ 1000 ^ max (dep p) (dep q) := Nat.pow_le_pow_right (by decide) (by omega)
    have hB : 1000 ^ max (dep p) (dep q) ≤ 2 ^ 150 := Nat.le_trans (Nat.pow_le_pow_right (by decide) (show max (dep p) (dep q) ≤ 15 by omega)) (by decide)
    rcases law_pieces_ t ht p n g'.2.2.2.1 (by omega) (by omega) (by omega) with ⟨hk, rs, e, h, hl⟩ | ⟨hk, e⟩
    · rcases law_pieces_ t ht q n g'.2.2.2.2 (by omega) (by omega) (by omega) with ⟨hk2, rs2, e2, h2, hl2⟩ | ⟨hk2, e2⟩
      · obtain ⟨r3, e3, h3, l3⟩ := law_chosen_ g'.1 g'.2.1 g'.2.2.1 (h.congr (fun _ _ _ => rfl) hm1) (h2.congr (fun _ _ _ => rfl) hm2) hB (by omega)
        refine pie_go n (.d (.list (rs.map eL))) .no (.d (.list (rs2.map eL))) .no .no .no .no hd0 (by omega) ⟨hk, hk2⟩ (h3.congr (fun x _ _ => rfl) ?_) (by show _ ≤ cnt p + 2 * cnt q + 2; omega) ?_
        · show 1000 ^ max (dep p) (dep q) ≤ 1000 ^ (max (dep p) (dep q) + 1)
          exact Nat.pow_le_pow_right (by decide) (by omega)
        · generalize rs.map eL = L at *
          generalize rs2.map eL = L2 at *
          generalize r3.map eL = L3 at *
          simp only [enc]
          simp [sh, e, e2, e3]
      · refine pie_stop n (.d (.list (rs.map eL))) .no (.d .none) .no .no .no .no (fun z => hk2 z.2) ?_
        generalize rs.map eL = L at *
        simp only [enc]
        simp [sh, e, e2]
    · rcases law_pieces_ t ht q n g'.2.2.2.2 (by omega) (by omega) (by omega) with ⟨hk2, rs2, e2, h2, hl2⟩ | ⟨hk2, e2⟩
      · refine pie_stop n (.d .none) .no (.d (.list (rs2.map eL))) .no .no .no .no (fun z => hk z.1) ?_
        generalize rs2.map eL = L2 at *
        simp only [enc]
        simp [sh, e, e2]
      · refine pie_stop n (.d .none) .no (.d .none) .no .no .no .no (fun z => hk z.1) ?_
        simp only [enc]
        simp [sh, e, e2]
  | .bin o p q, n + 1, g, hd, hn, hc => by
    have g' : Good p ∧ Good q := g
    have hc' : 2 * (cnt p + cnt q) < 3500 := hc
    have c1 := cnt_pos p
    have c2 := cnt_pos q
    have sh : SeqAt.shaped (.tuple [.str o.nm, enc p, enc q]) = true := enc_sh (p := .bin o p q) (by omega)
    have hd0 := hd
    simp only [dep] at hd hn
    have hp1 := pow_dep (max (dep p) (dep q))
    have hm1 : 1000 ^ dep p ≤ 1000 ^ max (dep p) (dep q) := Nat.pow_le_pow_right (by decide) (by omega)
    have hm2 : 1000 ^ dep q ≤ 1000 ^ max (dep p) (dep q) := Nat.pow_le_pow_right (by decide) (by omega)
    have hB : 1000 ^ max (dep p) (dep q) ≤ 2 ^ 150 := Nat.le_trans (Nat.pow_le_pow_right (by decide) (show max (dep p) (dep q) ≤ 15 by omega)) (by decide)
    have ne1 : (o.nm == ("times" : Str)) = false ∧ (o.nm == ("over" : Str)) = false ∧ (o.nm == ("if" : Str)) = false := by cases o <;> decide
    rcases law_pieces_ t ht p n g'.1 (by omega) (by omega) (by omega) with ⟨hk, rs, e, h, hl⟩ | ⟨hk, e⟩
    · rcases law_pieces_ t ht q n g'.2 (by omega) (by omega) (by omega) with ⟨hk2, rs2, e2, h2, hl2⟩ | ⟨hk2, e2⟩
      · obtain ⟨r3, e3, h3, l3⟩ := law_joined_ (h.congr (fun _ _ _ => rfl) hm1) (h2.congr (fun _ _ _ => rfl) hm2) hB (by omega) (B15 hk.bv) (B15 hk2.bv) o
        refine pie_go n (.d (.list (rs.map eL))) .no (.d (.list (rs2.map eL))) .no .no .no .no hd0 (by omega) ⟨hk, hk2⟩ (h3.congr (fun x _ _ => rfl) ?_) (by show _ ≤ 2 * (cnt p + cnt q); omega) ?_
        · show 2 * 1000 ^ max (dep p) (dep q) ≤ 1000 ^ (max (dep p) (dep q) + 1)
          rw [Nat.pow_succ]; omega
        · generalize rs.map eL = L at *
          generalize rs2.map eL = L2 at *
          generalize r3.map eL = L3 at *
          simp only [enc]
          generalize o.nm = w at *
          simp [sh, e, e2, e3, ne1]
      · refine pie_stop n (.d (.list (rs.map eL))) .no (.d .none) .no .no .no .no (fun z => hk2 z.2) ?_
        generalize rs.map eL = L at *
        simp only [enc]
        generalize o.nm = w at *
        simp [sh, e, e2, ne1]
    · rcases law_pieces_ t ht q n g'.2 (by omega) (by omega) (by omega) with ⟨hk2, rs2, e2, h2, hl2⟩ | ⟨hk2, e2⟩
      · refine pie_stop n (.d .none) .no (.d (.list (rs2.map eL))) .no .no .no .no (fun z => hk z.1) ?_
        generalize rs2.map eL = L2 at *
        simp only [enc]
        generalize o.nm = w at *
        simp [sh, e, e2, ne1]
      · refine pie_stop n (.d .none) .no (.d .none) .no .no .no .no (fun z => hk z.1) ?_
        simp only [enc]
        generalize o.nm = w at *
        simp [sh, e, e2, ne1]
theorem ninL01 (x : Int) : ninD (.int x) (.list [.int 0, .int 1]) = some (!b01 x) := by
  have := ninD01 x
  rw [ninD_eq] at this ⊢
  rw [inD_tup] at this
  rw [inD_lst]
  exact this
theorem sSet_of {i : Nat} {f : List S → M S} {ρ ρ' : List S} {cs cs' : Store} {v : S} (h : f ρ cs = .ok v cs') (e : ρ.set i v = ρ') : sSet i f ρ cs = .nx ρ' cs' := by
  rw [sSet_, stp_, h, ← e]
theorem tR_app (r : Lr) (t : List Lr) (z : Int) : ∀ l1 : List Lr, tR (l1 ++ r :: t) z = tR l1 (r.s - 1) ++ tR (r :: t) z
  | [] => rfl
  | [q] => rfl
  | q :: q' :: l => by
    have ih := tR_app r t z (q' :: l)
    show _ :: tR ((q' :: l) ++ r :: t) z = _
    rw [ih]; rfl
theorem two_of {g1 g2 : G} {ρ : List S} {cs : Store} {o : Out} (h : g1 ρ cs = o) (hn : ∀ ρ' cs', o ≠ .nx ρ' cs') : gSeq g1 g2 ρ cs = o := by
  rw [gSeq_, h]
  cases o <;> first | rfl | exact absurd rfl (hn _ _)
abbrev riseB : G := (gSeq (sSet 3 (eIf (op2 ltD (eBin addD (eV 2) (eC (.int (1)))) (eCd lenG (aCons (eV 0) aNil))) (eBin subD (eBin ixD (eBin ixD (eV 0) (eBin addD (eV 2) (eC (.int (1))))) (eC (.int (0)))) (eC (.int (1)))) (eBin powD (eC (.int (10))) (eC (.int (12))))))
      (gSeq (sIf (tAndM (op2 gtD (eV 3) (eBin ixD (eBin ixD (eV 0) (eV 2)) (eC (.int (0))))) (op2 ninD (eBin ixD (eBin ixD (eV 0) (eV 2)) (eC (.int (2)))) (eFrz (eLst (aCons (eC (.int (0))) (aCons (eC (.int (1))) aNil)))))) (sRet (eRv (eC (.bool false)))) gNil)
      (sIf (tAndM (op2 gtD (eV 2) (eC (.int (0)))) (op2 ninD (eBin subD (eBin ixD (eBin ixD (eV 1) (eV 2)) (eC (.int (1)))) (eBin ixD (eBin ixD (eV 1) (eBin subD (eV 2) (eC (.int (1))))) (eC (.int (2))))) (eFrz (eLst (aCons (eC (.int (0))) (aCons (eC (.int (1))) aNil)))))) (sRet (eRv (eC (.bool false)))) gNil)))
abbrev riseL : G := (sSet 3 (eIf (op2 ltD (eBin addD (eV 2) (eC (.int (1)))) (eCd lenG (aCons (eV 0) aNil))) (eBin subD (eBin ixD (eBin ixD (eV 0) (eBin addD (eV 2) (eC (.int (1))))) (eC (.int (0)))) (eC (.int (1)))) (eBin powD (eC (.int (10))) (eC (.int (12))))))
theorem rise_last {rs l1 t : List Lr} {r : Lr} (E : D) (s3 : S) (h : rs = l1 ++ r :: t) : ∃ l, tR (r :: t) 1000000000000 = ⟨r.s, l, r.p, r.a⟩ :: tR t 1000000000000 ∧ riseL [.d (.list (rs.map eL)), .d E, .d (.int (l1.length : Int)), s3] [] = .nx [.d (.list (rs.map eL)), .d E, .d (.int (l1.length : Int)), .d (.int l)] [] := by
  obtain ⟨l, e1, e2⟩ := tR_cons r t 1000000000000
  refine ⟨l, e1, ?_⟩
  have ll : (rs.map eL).length = l1.length + 1 + t.length := by subst h; simp; omega
  cases t with
  | nil =>
    have c1 : ¬ (l1.length : Int) + 1 < ((rs.map eL).length : Int) := by rw [ll, List.length_nil]; omega
    subst e2
    generalize rs.map eL = L1 at *
    simp [c1, pow12, -powD_int]
  | cons q t =>
    have c1 : (l1.length : Int) + 1 < ((rs.map eL).length : Int) := by rw [ll, List.length_cons]; omega
    have a2 : atI (rs.map eL) ((l1.length : Int) + 1) = some (.tuple [.int q.s, .int q.a, .int q.p]) := by
      subst h
      exact atI_of (n := l1.length + 1) (by omega) (by simp; rfl)
    have e2' : l = q.s - 1 := e2
    subst e2'
    generalize rs.map eL = L1 at *
    simp [a2, c1]
abbrev riseR : G := (gSeq (sIf (tAndM (op2 gtD (eV 3) (eBin ixD (eBin ixD (eV 0) (eV 2)) (eC (.int (0))))) (op2 ninD (eBin ixD (eBin ixD (eV 0) (eV 2)) (eC (.int (2)))) (eFrz (eLst (aCons (eC (.int (0))) (aCons (eC (.int (1))) aNil)))))) (sRet (eRv (eC (.bool false)))) gNil) (sIf (tAndM (op2 gtD (eV 2) (eC (.int (0)))) (op2 ninD (eBin subD (eBin ixD (eBin ixD (eV 1) (eV 2)) (eC (.int (1)))) (eBin ixD (eBin ixD (eV 1) (eBin subD (eV 2) (eC (.int (1))))) (eC (.int (2))))) (eFrz (eLst (aCons (eC (.int (0))) (aCons (eC (.int (1))) aNil)))))) (sRet (eRv (eC (.bool false)))) gNil))
theorem rise_rest0 (L E : List D) {w : Rw} (h : atI L 0 = some (.tuple [.int w.f, .int w.a, .int w.s])) :
    (okR w = true → riseR [.d (.list L), .d (.list E), .d (.int 0), .d (.int w.l)] [] = .nx [.d (.list L), .d (.list E), .d (.int 0), .d (.int w.l)] []) ∧
    (okR w = false → riseR [.d (.list L), .d (.list E), .d (.int 0), .d (.int w.l)] [] = .rt (.d (.bool false)) []) := by
  unfold okR riseR
  have n1 := ninL01 w.s
  by_cases c : w.f < w.l
  · cases b : b01 w.s <;> rw [b] at n1 <;> simp [h, c, n1, -ninD_of]
  · simp [h, c]
theorem rise_rest (L E : List D) (k : Nat) {p w : Rw} (h : atI L ((k + 1 : Nat) : Int) = some (.tuple [.int w.f, .int w.a, .int w.s])) (h1 : atI E ((k + 1 : Nat) : Int) = some (eE w)) (h2 : atI E (k : Int) = some (eE p)) :
    ((okR w && okJ p w) = true → riseR [.d (.list L), .d (.list E), .d (.int ((k + 1 : Nat) : Int)), .d (.int w.l)] [] = .nx [.d (.list L), .d (.list E), .d (.int ((k + 1 : Nat) : Int)), .d (.int w.l)] []) ∧
    ((okR w && okJ p w) = false → riseR [.d (.list L), .d (.list E), .d (.int ((k + 1 : Nat) : Int)), .d (.int w.l)] [] = .rt (.d (.bool false)) []) := by
  have e : eE w = .tuple [.int w.f, .int w.a, .int (endV w)] := rfl
  have e' : eE p = .tuple [.int p.f, .int p.a, .int (endV p)] := rfl
  rw [e] at h1
  rw [e'] at h2
  have k1 : ((k + 1 : Nat) : Int) - 1 = (k : Int) := by omega
  have k0 : (0 : Int) < ((k + 1 : Nat) : Int) := by omega
  unfold okR okJ riseR
  have n1 := ninL01 w.s
  have n2 := ninL01 (w.a - endV p)
  generalize ((k + 1 : Nat) : Int) = K at *
  generalize b01 (w.a - endV p) = B2 at *
  by_cases c : w.f < w.l
  · cases b : b01 w.s <;> rw [b] at n1 <;> cases B2 <;> simp [h, h1, h2, c, n1, n2, k0, k1, -ninD_of]
  · cases B2 <;> simp [h, h1, h2, c, n2, k0, k1, -ninD_of]
theorem rise_body {ρ : List S} {o : Out} {ρ' : List S} (h1 : riseL ρ [] = .nx ρ' []) (h2 : riseR ρ' [] = o) : riseB ρ [] = o := gSeq_of h1 h2
theorem rise_loop {rs : List Lr} (E : List D) (hE : E = (tR rs 1000000000000).map eE) : ∀ (t l1 : List Lr) (p : Rw) (s2 s3 : S), rs = l1 ++ t → l1 ≠ [] → (∀ q t', t = q :: t' → ∃ A, tR l1 (q.s - 1) = A ++ [p]) →
    (gk p (tR t 1000000000000) = true ∧ ∃ t2 t3, gFor (gtN 2) riseB (upN l1.length t.length) [.d (.list (rs.map eL)), .d (.list E), s2, s3] [] = .nx [.d (.list (rs.map eL)), .d (.list E), t2, t3] []) ∨
    (gk p (tR t 1000000000000) = false ∧ gFor (gtN 2) riseB (upN l1.length t.length) [.d (.list (rs.map eL)), .d (.list E), s2, s3] [] = .rt (.d (.bool false)) [])
  | [], l1, p, s2, s3, _, _, _ => .inl ⟨rfl, s2, s3, rfl⟩
  | r :: t, l1, p, s2, s3, e, ne, hp => by
    have e' : rs = (l1 ++ [r]) ++ t := by rw [e]; simp
    obtain ⟨l, d1, d2⟩ := rise_last (.list E) s3 e
    obtain ⟨A, hA⟩ := hp r t rfl
    have la : (tR l1 (r.s - 1)).length = l1.length := tR_len _ _
    have ta := tR_app r t 1000000000000 l1
    rw [← e, d1, hA] at ta
    obtain ⟨k, hk⟩ : ∃ k, l1.length = k + 1 := ⟨l1.length - 1, by have := List.length_pos_iff.2 ne; omega⟩
    have hA2 : A.length = k := by rw [hA, List.length_append, List.length_singleton] at la; omega
    have a1 : atI (rs.map eL) ((k + 1 : Nat) : Int) = some (.tuple [.int r.s, .int r.a, .int r.p]) := by
      rw [← hk]; subst e; exact atI_of rfl (by simp; rfl)
    have a2 : atI E ((k + 1 : Nat) : Int) = some (eE ⟨r.s, l, r.p, r.a⟩) := by
      rw [hE, ta]; exact atI_of (n := k + 1) rfl (by simp [hA2])
    have a3 : atI E (k : Int) = some (eE p) := by
      rw [hE, ta]; exact atI_of (n := k) rfl (by simp [hA2])
    obtain ⟨g1, g2⟩ := rise_rest (rs.map eL) E k (p := p) (w := ⟨r.s, l, r.p, r.a⟩) a1 a2 a3
    have ih := rise_loop E hE t (l1 ++ [r]) ⟨r.s, l, r.p, r.a⟩ (.d (.int (l1.length : Int))) (.d (.int l)) e' (by simp) (fun q t' hq => by
      subst hq
      have z : l = q.s - 1 := by
        have : (⟨r.s, q.s - 1, r.p, r.a⟩ : Rw) :: tR (q :: t') 1000000000000 = ⟨r.s, l, r.p, r.a⟩ :: tR (q :: t') 1000000000000 := d1
        injection this with h1 h2
        injection h1 with _ h3 _ _
        exact h3.symm
      exact ⟨tR l1 (r.s - 1), by rw [tR_snoc, z]⟩)
    rw [List.length_append, List.length_singleton] at ih
    have un : upN l1.length (r :: t).length = .int (l1.length : Int) :: upN (l1.length + 1) t.length := rfl
    rw [un, gFor_cons, d1]
    simp only [gtN_, List.set_cons_succ, List.set_cons_zero]
    rw [← hk] at g1 g2
    show (((okR _ && okJ p _) && gk _ _) = true ∧ _) ∨ (((okR _ && okJ p _) && gk _ _) = false ∧ _)
    cases c : okR (⟨r.s, l, r.p, r.a⟩ : Rw) && okJ p ⟨r.s, l, r.p, r.a⟩ with
    | false =>
      refine .inr ⟨rfl, ?_⟩
      rw [rise_body d2 (g2 c)]
    | true =>
      rw [Bool.true_and]
      rw [rise_body d2 (g1 c)]
      exact ih
theorem law_rises_ {F : Int → Int} {rs : List Lr} {B : Nat} (h : LL rs F B) (hB : B ≤ 2 ^ 150) (hl : rs.length < 1000000) : ∃ b, F__law_rises [.d (.list (rs.map eL))] [] = .ok (.d (.bool b)) [] ∧ (b = true ↔ Gn F) := by
  obtain ⟨r, t, e, r0⟩ := h.ne
  obtain ⟨l, d1, d2⟩ := rise_last (rs := rs) (l1 := []) (t := t) (r := r) (.list ((tR rs 1000000000000).map eE)) .no (by rw [e]; rfl)
  have hr := h.r
  unfold LRep at hr
  have d0 : tR rs 1000000000000 = ⟨r.s, l, r.p, r.a⟩ :: tR t 1000000000000 := by rw [e]; exact d1
  rw [d0] at hr
  obtain ⟨h1, h2, h3, h4⟩ := hr
  have ar : F 0 = r.a := by rw [← r0]; exact h.av r (by simp [e])
  have gi := gk_iff (tR t 1000000000000) ⟨r.s, l, r.p, r.a⟩ (h3 l h2 (Int.le_refl _)) h4
  have oi := okR_iff h3
  have key : Gn F ↔ r.a = 0 ∧ okR (⟨r.s, l, r.p, r.a⟩ : Rw) = true ∧ gk ⟨r.s, l, r.p, r.a⟩ (tR t 1000000000000) = true := by
    unfold Gn
    rw [ar, oi, gi]
    have h1' : r.s = 0 := h1
    constructor
    · rintro ⟨a, b⟩
      have := h4.le
      have this' : l + 1 ≤ 1000000000000 + 1 := this
      exact ⟨a, fun x c d => b x (by have c' : r.s ≤ x := c; omega) (by have d' : x < l := d; omega), fun x c d => b x (by have c' : l ≤ x := c; have h2' : r.s ≤ l := h2; omega) d⟩
    · rintro ⟨a, b, c⟩
      refine ⟨a, fun x d e => ?_⟩
      by_cases z : x < l
      · exact b x (by show r.s ≤ x; omega) z
      · exact c x (by show l ≤ x; omega) e
  have a0 : atI (rs.map eL) 0 = some (.tuple [.int r.s, .int r.a, .int r.p]) := by rw [e]; exact atI0 _ _
  have e0 : atI ((tR rs 1000000000000).map eE) 0 = some (.tuple [.int r.s, .int r.a, .int (endV ⟨r.s, l, r.p, r.a⟩)]) := by rw [d0]; exact atI0 _ _
  have lp := rise_loop (rs := rs) _ rfl t [r] ⟨r.s, l, r.p, r.a⟩ (.d (.int 0)) (.d (.int l)) e (by simp) (fun q t' hq => by
      subst hq
      have : (⟨r.s, q.s - 1, r.p, r.a⟩ : Rw) :: tR (q :: t') 1000000000000 = ⟨r.s, l, r.p, r.a⟩ :: tR (q :: t') 1000000000000 := d1
      injection this with h1 h2
      exact ⟨[], by rw [← h1]; rfl⟩)
  have le := law_ends_ h hB hl
  have ll : (rs.map eL).length = t.length + 1 := by rw [e]; simp
  have ir : ∀ s, iRng (eCd lenG (aCons (eV 0) aNil)) [.d (.list (rs.map eL)), s, .no, .no] [] = .ok (rngD 0 (t.length + 1)) [] := fun s => iRngNat (by rw [← ll]; generalize rs.map eL = L; simp) (by rw [e] at hl; simp at hl; omega)
  have up : rngD 0 (t.length + 1) = .int 0 :: upN ([r] : List Lr).length t.length := rngD_up _
  obtain ⟨g1, g2⟩ := rise_rest0 (rs.map eL) ((tR rs 1000000000000).map eE) (w := ⟨r.s, l, r.p, r.a⟩) a0
  have d2' : riseL [.d (.list (rs.map eL)), .d (.list ((tR rs 1000000000000).map eE)), .d (.int 0), .no] [] = .nx [.d (.list (rs.map eL)), .d (.list ((tR rs 1000000000000).map eE)), .d (.int 0), .d (.int l)] [] := d2
  clear d2
  unfold F__law_rises B__law_rises
  rw [runG_]
  generalize hLE : (tR rs 1000000000000).map eE = LE at *
  generalize hLL : rs.map eL = LL1 at *
  have s0 : sSet 1 (eFrz (eCall F__law_ends (aCons (eV 0) aNil))) [.d (.list LL1), .no, .no, .no] [] = .nx [.d (.list LL1), .d (.list LE), .no, .no] [] := sSet_of (frz_of (eCall_own (F := F__law_ends) (g := aCons (eV 0) aNil) (ss := [.d (.list LL1)]) (ρ := [.d (.list LL1), .no, .no, .no]) (cs := []) (by simp) rfl le)) rfl
  by_cases c : r.a = 0
  · have s1 : sIf (op2 neD (eBin ixD (eBin ixD (eV 1) (eC (.int (0)))) (eC (.int (1)))) (eC (.int (0)))) (sRet (eRv (eC (.bool false)))) gNil [.d (.list LL1), .d (.list LE), .no, .no] [] = .nx [.d (.list LL1), .d (.list LE), .no, .no] [] := by
      simp [e0, c]
    cases o : okR (⟨r.s, l, r.p, r.a⟩ : Rw) with
    | false =>
      refine ⟨false, ?_, by rw [key]; simp [o]⟩
      have f1 : gFor (gtN 2) riseB (rngD 0 (t.length + 1)) [.d (.list LL1), .d (.list LE), .no, .no] [] = .rt (.d (.bool false)) [] := by
        rw [up, gFor_cons]
        simp only [gtN_, List.set_cons_succ, List.set_cons_zero]
        rw [rise_body d2' (g2 o)]
      have s2 := sFor_of (ir _) f1
      exact (congrArg (fin 0) (gSeq_of s0 (gSeq_of s1 (two_of s2 (fun _ _ => by simp))))).trans (by simp)
    | true =>
      rcases lp with ⟨k1, t2, t3, k2⟩ | ⟨k1, k2⟩
      · refine ⟨true, ?_, by rw [key]; exact ⟨fun _ => ⟨c, o, k1⟩, fun _ => rfl⟩⟩
        have f1 : gFor (gtN 2) riseB (rngD 0 (t.length + 1)) [.d (.list LL1), .d (.list LE), .no, .no] [] = .nx [.d (.list LL1), .d (.list LE), t2, t3] [] := by
          rw [up, gFor_cons]
          simp only [gtN_, List.set_cons_succ, List.set_cons_zero]
          rw [rise_body d2' (g1 o)]
          exact k2
        have s2 := sFor_of (ir _) f1
        have s3 : sRet (eRv (eC (.bool true))) [.d (.list LL1), .d (.list LE), t2, t3] [] = .rt (.d (.bool true)) [] := by simp
        exact (congrArg (fin 0) (gSeq_of s0 (gSeq_of s1 (gSeq_of s2 s3)))).trans (by simp)
      · refine ⟨false, ?_, by rw [key]; simp [k1]⟩
        have f1 : gFor (gtN 2) riseB (rngD 0 (t.length + 1)) [.d (.list LL1), .d (.list LE), .no, .no] [] = .rt (.d (.bool false)) [] := by
          rw [up, gFor_cons]
          simp only [gtN_, List.set_cons_succ, List.set_cons_zero]
          rw [rise_body d2' (g1 o)]
          exact k2
        have s2 := sFor_of (ir _) f1
        exact (congrArg (fin 0) (gSeq_of s0 (gSeq_of s1 (two_of s2 (fun _ _ => by simp))))).trans (by simp)
  · refine ⟨false, ?_, by rw [key]; simp [c]⟩
    have s1 : sIf (op2 neD (eBin ixD (eBin ixD (eV 1) (eC (.int (0)))) (eC (.int (1)))) (eC (.int (0)))) (sRet (eRv (eC (.bool false)))) gNil [.d (.list LL1), .d (.list LE), .no, .no] [] = .rt (.d (.bool false)) [] := by
      simp [e0, c]
    exact (congrArg (fin 0) (gSeq_of s0 (two_of s1 (fun _ _ => by simp)))).trans (by simp)
namespace Nm
/-! data whose texts keep p -/
mutual
def dAll (p : Str → Bool) : D → Bool
  | .str x => p x
  | .list xs => dAlls p xs
  | .tuple xs => dAlls p xs
  | .dict _ => false
  | _ => true
def dAlls (p : Str → Bool) : List D → Bool
  | [] => true
  | x :: xs => dAll p x && dAlls p xs
end
theorem dAlls_iff {p : Str → Bool} : ∀ {xs : List D}, dAlls p xs = true ↔ ∀ x ∈ xs, dAll p x = true
  | [] => by simp [dAlls]
  | x :: xs => by simp [dAlls, dAlls_iff (xs := xs)]
def txOk (x : Str) : Bool := decide (x.length ≤ 1000) && PyData.strOk x
/-- plain data: short texts, not deep, no dict -/
structure Sane (p : Str → Bool) (d : D) : Prop where
  a : dAll (fun x => txOk x && p x) d = true
  d : d.depth ≤ 60
mutual
theorem lay_of {p : Str → Bool} : ∀ d : D, dAll (fun x => txOk x && p x) d = true → d.canLay0 = true
  | .none, _ => by simp [PyData.canLay0]
  | .bool _, _ => by simp [PyData.canLay0]
  | .int _, _ => by simp [PyData.canLay0]
  | .str x, h => by simp [dAll, txOk] at h; simp [PyData.canLay0, h]
  | .list xs, h => by simp only [PyData.canLay0]; exact lays_of xs (by simpa [dAll] using h)
  | .tuple xs, h => by simp only [PyData.canLay0]; exact lays_of xs (by simpa [dAll] using h)
  | .dict _, h => by simp [dAll] at h
theorem lays_of {p : Str → Bool} : ∀ xs : List D, dAlls (fun x => txOk x && p x) xs = true → PyData.canLayAll0 xs = true
  | [], _ => by simp [PyData.canLayAll0]
  | x :: xs, h => by
    simp only [dAlls, Bool.and_eq_true] at h
    simp only [PyData.canLayAll0, Bool.and_eq_true]
    exact ⟨lay_of x h.1, lays_of xs h.2⟩
end
theorem dep_mem : ∀ {xs : List D} {x : D}, x ∈ xs → x.depth ≤ PyData.depthAll xs
  | y :: ys, x, h => by
    simp only [PyData.depthAll]
    rcases List.mem_cons.1 h with h | h
    · subst h; exact Nat.le_max_left _ _
    · exact Nat.le_trans (dep_mem h) (Nat.le_max_right _ _)
theorem dep_le {n : Nat} : ∀ {xs : List D}, (∀ x ∈ xs, x.depth ≤ n) → PyData.depthAll xs ≤ n
  | [], _ => by simp [PyData.depthAll]
  | y :: ys, h => by
    simp only [PyData.depthAll]
    exact Nat.max_le.2 ⟨h y (by simp), dep_le fun x hx => h x (by simp [hx])⟩
section
variable {p : Str → Bool} {d x : D} {xs ys : List D}
theorem Sane.sh (h : Sane p d) : SeqAt.shaped d = true := by
  have := h.d
  simp [SeqAt.shaped, lay_of d h.a]; omega
theorem Sane.mem (h : Sane p (.tuple xs)) (m : x ∈ xs) : Sane p x := by
  have a := h.a
  have b := h.d
  simp only [dAll] at a
  simp only [PyData.depth] at b
  have := dep_mem m
  exact ⟨dAlls_iff.1 a x m, by omega⟩
theorem Sane.memL (h : Sane p (.list xs)) (m : x ∈ xs) : Sane p x := by
  have a := h.a
  have b := h.d
  simp only [dAll] at a
  simp only [PyData.depth] at b
  have := dep_mem m
  exact ⟨dAlls_iff.1 a x m, by omega⟩
theorem sane_of {n : Nat} (hn : n + 1 ≤ 60) (h : ∀ x ∈ xs, Sane p x ∧ x.depth ≤ n) : Sane p (.tuple xs) ∧ Sane p (.list xs) := by
  have a : dAlls (fun x => txOk x && p x) xs = true := dAlls_iff.2 fun x hx => (h x hx).1.a
  have b := dep_le fun x hx => (h x hx).2
  exact ⟨⟨by simpa only [dAll] using a, by simp only [PyData.depth]; omega⟩, ⟨by simpa only [dAll] using a, by simp only [PyData.depth]; omega⟩⟩
theorem Sane.sub (h : Sane p (.tuple xs)) (m : ∀ x ∈ ys, x ∈ xs) : Sane p (.tuple ys) ∧ Sane p (.list ys) := by
  have b := h.d
  simp only [PyData.depth] at b
  exact sane_of (n := PyData.depthAll xs) (by omega) fun x hx => ⟨h.mem (m x hx), dep_mem (m x hx)⟩
theorem Sane.subL (h : Sane p (.list xs)) (m : ∀ x ∈ ys, x ∈ xs) : Sane p (.tuple ys) ∧ Sane p (.list ys) := by
  have b := h.d
  simp only [PyData.depth] at b
  exact sane_of (n := PyData.depthAll xs) (by omega) fun x hx => ⟨h.memL (m x hx), dep_mem (m x hx)⟩
theorem Sane.str {x : Str} (h : Sane p (.str x)) : x.length ≤ 1000 ∧ PyData.strOk x = true ∧ p x = true := by
  have a := h.a
  simp [dAll, txOk] at a
  exact ⟨a.1.1, a.1.2, a.2⟩
theorem Sane.int {i : Int} : Sane p (.int i) := ⟨by simp [dAll], by simp [PyData.depth]⟩
theorem Sane.none : Sane p .none := ⟨by simp [dAll], by simp [PyData.depth]⟩
theorem Sane.bool {b : Bool} : Sane p (.bool b) := ⟨by simp [dAll], by simp [PyData.depth]⟩
theorem eq_nil (h : SeqAt.shaped (.list xs) = true) : eqD (.list xs) (.list []) = some xs.isEmpty := by
  rw [eqD_sh h (by decide)]
  cases xs <;> simp [PyData.eqv, PyData.eqvAll]
end
/-! numbers and names -/
def isNum (d : D) (a b : Int) : Bool := match d with
  | .int x => decide (a ≤ x) && decide (x ≤ b)
  | _ => false
theorem is_number_ (d : D) (a b : Int) : F_is_number [.d d, .d (.int a), .d (.int b)] [] = .ok (.d (.bool (isNum d a b))) [] := by
  cases d with
  | int x =>
    simp [F_is_number, B_is_number, isNum]
    by_cases h : a ≤ x <;> simp [h]
  | _ => simp [F_is_number, B_is_number, isaD, isNum]
def lets : List Nat := ("abcdefghijklmnopqrstuvwxyz" : Str).cps.toList
def figs : List Nat := ("0123456789" : Str).cps.toList
def isName (d : D) : Bool := match d with
  | .str x => match x.cps.toList with
    | [] => false
    | c :: r => decide (r.length ≤ 7) && (decide (c ∈ lets) && (c :: r).all fun k => decide (k ∈ lets) || decide (k ∈ figs))
  | _ => false
theorem len_cps (x : Str) : x.length = x.cps.toList.length := by
  show x.cps.size = _
  simp
theorem ix_str {x : Str} {c : Nat} {r : List Nat} (h : x.cps.toList = c :: r) (hl : x.length ≤ 1000) : ixD (.str x) (.int 0) = some (chD c) := by
  show (if x.length ≤ sizeLine then (atI x.cps.toList 0).map fun c => PyData.str ⟨#[c]⟩ else none) = _
  rw [if_pos (size_ok (by omega)), h, atI0]; rfl
theorem len_str {x : Str} (hl : x.length ≤ 1000) : lenG [.str x] = some (.int x.length) := by
  have h : x.length ≤ sizeLine := size_ok (by omega)
  simp [lenG, lenD, h]
theorem ch_shaped {l : List Nat} (h : ∀ c ∈ l, c < 0x110000) : SeqAt.shaped (.list (l.map chD)) = true := by
  have a : PyData.canLayAll0 (l.map chD) = true ∧ PyData.depthAll (l.map chD) = 0 := by
    induction l with
    | nil => simp [PyData.canLayAll0, PyData.depthAll]
    | cons c l ih =>
      have := ih fun k hk => h k (by simp [hk])
      have hc := h c (by simp)
      simp [PyData.canLayAll0, PyData.depthAll, this, chD, PyData.canLay0, PyData.strOk, PyData.depth, hc]
  simp [SeqAt.shaped, PyData.canLay0, PyData.depth, a]
theorem isa_other {T : String} {d : D} (h : isaD T d = false) : isaD T d = false := h
theorem is_name_ {p : Str → Bool} {d : D} (h : Sane p d) : F_is_name [.d d] [] = .ok (.d (.bool (isName d))) [] := by
  cases d with
  | str x =>
    obtain ⟨h1, h2, _⟩ := h.str
    have hl := len_cps x
    have l1 := len_str h1
    cases e : x.cps.toList with
    | nil =>
      rw [e] at hl
      simp at hl
      simp [F_is_name, B_is_name, l1, hl, isName, e]
    | cons c r =>
      rw [e] at hl
      simp only [List.length_cons] at hl
      have i1 := ix_str e h1
      by_cases q1 : r.length ≤ 7
      · have q2 : (x.length : Int) ≤ 8 := by omega
        have q3 : (1 : Int) ≤ x.length := by omega
        by_cases q4 : c ∈ lets
        · have q5 : c ∈ ("abcdefghijklmnopqrstuvwxyz" : Str).cps.toList := q4
          have lc := lcL_pure (cs := []) (tg := gtN 1) (t := tAndM (op2 ninD (eV 1) (eC (.str "abcdefghijklmnopqrstuvwxyz"))) (op2 ninD (eV 1) (eC (.str "0123456789")))) (f := eV 1) (ρ := [.d (.str x), .no])
            (fun y => [.d (.str x), .d y]) (fun y => match y with
              | .str z => !(decide (z.cps.getD 0 0 ∈ lets)) && !(decide (z.cps.getD 0 0 ∈ figs))
              | _ => false) id (x.cps.toList.map chD) [] (by
              intro y hy
              obtain ⟨k, hk, rfl⟩ := List.mem_map.1 hy
              refine ⟨rfl, ?_, fun _ => by simp⟩
              have n1 : inD (chD k) (.str "abcdefghijklmnopqrstuvwxyz") = some (decide (k ∈ lets)) := inD_ch _ _
              have n2 : inD (chD k) (.str "0123456789") = some (decide (k ∈ figs)) := inD_ch _ _
              have n3 : (chD k) = .str ⟨#[k]⟩ := rfl
              by_cases w1 : k ∈ lets <;> simp [n1, n2, w1, ninD_eq, n3] <;> simp [← n3, n1, n2, w1]) (by simp [e]; exact size_ok (by omega))
          have ef : ((x.cps.toList.map chD).filter fun y => match y with
              | .str z => !(decide (z.cps.getD 0 0 ∈ lets)) && !(decide (z.cps.getD 0 0 ∈ figs))
              | _ => false).map id = (x.cps.toList.filter fun k => !(decide (k ∈ lets)) && !(decide (k ∈ figs))).map chD := by
            rw [List.filter_map, List.map_id]; rfl
          rw [List.nil_append, ef] at lc
          have sh := ch_shaped (l := x.cps.toList.filter fun k => !(decide (k ∈ lets)) && !(decide (k ∈ figs))) (by
            intro k hk
            have hm := (List.mem_filter.1 hk).1
            unfold PyData.strOk at h2
            rw [Array.all_eq_true_iff_forall_mem] at h2
            exact of_decide_eq_true (h2 k (Array.mem_toList_iff.1 hm)))
          have en := eq_nil sh
          have ee : (c :: r).all (fun k => decide (k ∈ lets) || decide (k ∈ figs)) = ((x.cps.toList.filter fun k => !(decide (k ∈ lets)) && !(decide (k ∈ figs))).map chD).isEmpty := by
            rw [e]
            rw [Bool.eq_iff_iff]
            simp [List.filter_eq_nil_iff, Classical.or_iff_not_imp_left]
            refine ⟨fun h a ha hl => ?_, fun h => ⟨fun hl => h c (fun z => absurd rfl z) hl, fun y hy => h y (fun _ => hy)⟩⟩
            by_cases q : a = c
            · subst q; exact h.1 hl
            · exact h.2 a (ha q) hl
          generalize (x.cps.toList.filter fun k => !(decide (k ∈ lets)) && !(decide (k ∈ figs))).map chD = fl at *
          rw [e, List.map_cons] at lc
          have q6 : isName (.str x) = fl.isEmpty := by
            show (match x.cps.toList with
              | [] => false
              | c :: r => decide (r.length ≤ 7) && (decide (c ∈ lets) && (c :: r).all fun k => decide (k ∈ lets) || decide (k ∈ figs))) = _
            rw [e]
            simp only [ee, q1, q4, decide_true, Bool.true_and]
          rw [q6]
          simp [F_is_name, B_is_name, l1, i1, q2, q3, q5, lc, en, ninD_eq, e]
        · have q5 : ¬ c ∈ ("abcdefghijklmnopqrstuvwxyz" : Str).cps.toList := q4
          simp [F_is_name, B_is_name, l1, i1, q2, q3, q5, isName, e, q4, ninD_eq]
      · have q2 : ¬ (x.length : Int) ≤ 8 := by omega
        have q3 : (1 : Int) ≤ x.length := by omega
        simp [F_is_name, B_is_name, l1, i1, q2, q3, isName, e, q1]
  | _ => simp [F_is_name, B_is_name, isaD, isName]
theorem is_day_ (d : D) : F_is_day [.d d] [] = .ok (.d (.bool (isNum d 0 36500))) [] := by
  simp [F_is_day, B_is_day, is_number_]
/-- a tuple of so many -/
def isTup (d : D) (a b : Int) : Bool := match d with
  | .tuple xs => decide (a ≤ (xs.length : Int)) && decide ((xs.length : Int) ≤ b)
  | _ => false
theorem is_tuple_ (d : D) (a b : Int) : F_is_tuple [.d d, .d (.int a), .d (.int b)] [] = .ok (.d (.bool (isTup d a b))) [] := by
  cases d with
  | tuple xs =>
    simp [F_is_tuple, B_is_tuple, isTup]
    by_cases h : a ≤ (xs.length : Int) <;> simp [h]
  | _ => simp [F_is_tuple, B_is_tuple, isaD, isTup]
/-- texts -/
def txts : List D → Option (List Str)
  | [] => some []
  | .str x :: r => (txts r).map (x :: ·)
  | _ => none
def unl : List Str → Bool
  | [] => true
  | x :: r => !(decide (x ∈ r)) && unl r
theorem kysD_str : ∀ xs : List Str, kysD (xs.map .str) = some (xs.map Sum.inr)
  | [] => rfl
  | x :: xs => by
    show (match kyD (.str x), kysD (xs.map .str) with
      | some k, some ks => some (k :: ks)
      | _, _ => none) = _
    rw [kysD_str xs]; rfl
theorem unl_nodup : ∀ xs : List Str, unl xs = true ↔ xs.Nodup
  | [] => by simp [unl]
  | x :: xs => by simp [unl, unl_nodup xs]
theorem mK_str (l : List Str) (x : Str) : mK (l.map Sum.inr) (Sum.inr x) = decide (x ∈ l) := by
  rw [Bool.eq_iff_iff, mK_iff]
  simp
theorem fm_len : ∀ (xs l : List Str), l.Nodup → (((xs.map Sum.inr).foldl dd1 (l.map Sum.inr)).length = l.length + xs.length ↔ (l ++ xs).Nodup)
  | [], l, h => by simp [h]
  | x :: xs, l, h => by
    rw [List.map_cons, List.foldl_cons]
    by_cases hx : x ∈ l
    · have e : dd1 (l.map Sum.inr) (Sum.inr x) = l.map Sum.inr := by
        unfold dd1; rw [mK_str, if_pos (decide_eq_true hx)]
      rw [e]
      have le := fmK_le0 (xs.map Sum.inr) (l.map Sum.inr)
      simp only [List.length_map] at le
      constructor
      · intro z; rw [List.length_cons] at z; omega
      · intro z
        rw [List.nodup_append] at z
        exact absurd rfl (z.2.2 x hx x (by simp))
    · have e : dd1 (l.map Sum.inr) (Sum.inr x) = (l ++ [x]).map Sum.inr := by
        unfold dd1; rw [mK_str, if_neg (by simpa using hx)]; simp
      rw [e]
      have ih := fm_len xs (l ++ [x]) (by
        rw [List.nodup_append]
        refine ⟨h, by simp, fun a ha b hb => ?_⟩
        simp at hb
        subst hb
        exact fun z => hx (z ▸ ha))
      rw [List.append_assoc, List.singleton_append, List.length_append, List.length_singleton] at ih
      rw [List.length_cons, ← ih]
      constructor <;> intro z <;> omega
theorem fm_unl (xs : List Str) : ((fmK (xs.map Sum.inr)).length == xs.length) = unl xs := by
  have h := fm_len xs [] (by simp)
  simp only [List.nil_append, List.length_nil, Nat.zero_add, List.map_nil] at h
  rw [Bool.eq_iff_iff, beq_iff_eq, unl_nodup]
  exact h
theorem are_unlike_ (xs : List Str) (hl : xs.length < 4000) : F_are_unlike [.d (.list (xs.map .str))] [] = .ok (.d (.bool (unl xs))) [] := by
  have h := fm_unl xs
  rw [← h]
  simp [F_are_unlike, B_are_unlike, kysD_str, hl]
  rw [Bool.eq_iff_iff]
  simp
  omega
end Nm
@[simp] theorem cp0 : (("always" : Str) == ("peril" : Str)) = false := rfl
@[simp] theorem cq0 : (("always" : Str) = ("peril" : Str)) = False := eq_false (by decide)
@[simp] theorem cp1 : (("always" : Str) == ("place" : Str)) = false := rfl
@[simp] theorem cq1 : (("always" : Str) = ("place" : Str)) = False := eq_false (by decide)
@[simp] theorem cp2 : (("always" : Str) == ("object" : Str)) = false := rfl
@[simp] theorem cq2 : (("always" : Str) = ("object" : Str)) = False := eq_false (by decide)
@[simp] theorem cp3 : (("always" : Str) == ("day" : Str)) = false := rfl
@[simp] theorem cq3 : (("always" : Str) = ("day" : Str)) = False := eq_false (by decide)
@[simp] theorem cp4 : (("always" : Str) == ("noticed" : Str)) = false := rfl
@[simp] theorem cq4 : (("always" : Str) = ("noticed" : Str)) = False := eq_false (by decide)
@[simp] theorem cp5 : (("always" : Str) == ("says" : Str)) = false := rfl
@[simp] theorem cq5 : (("always" : Str) = ("says" : Str)) = False := eq_false (by decide)
@[simp] theorem cp6 : (("always" : Str) == ("not" : Str)) = false := rfl
@[simp] theorem cq6 : (("always" : Str) = ("not" : Str)) = False := eq_false (by decide)
@[simp] theorem cp7 : (("always" : Str) == ("and" : Str)) = false := rfl
@[simp] theorem cq7 : (("always" : Str) = ("and" : Str)) = False := eq_false (by decide)
@[simp] theorem cp8 : (("always" : Str) == ("or" : Str)) = false := rfl
@[simp] theorem cq8 : (("always" : Str) = ("or" : Str)) = False := eq_false (by decide)
@[simp] theorem cp9 : (("always" : Str) == ("words" : Str)) = false := rfl
@[simp] theorem cq9 : (("always" : Str) = ("words" : Str)) = False := eq_false (by decide)
@[simp] theorem cp10 : (("peril" : Str) == ("always" : Str)) = false := rfl
@[simp] theorem cq10 : (("peril" : Str) = ("always" : Str)) = False := eq_false (by decide)
@[simp] theorem cp11 : (("peril" : Str) == ("place" : Str)) = false := rfl
@[simp] theorem cq11 : (("peril" : Str) = ("place" : Str)) = False := eq_false (by decide)
@[simp] theorem cp12 : (("peril" : Str) == ("object" : Str)) = false := rfl
@[simp] theorem cq12 : (("peril" : Str) = ("object" : Str)) = False := eq_false (by decide)
@[simp] theorem cp13 : (("peril" : Str) == ("day" : Str)) = false := rfl
@[simp] theorem cq13 : (("peril" : Str) = ("day" : Str)) = False := eq_false (by decide)
@[simp] theorem cp14 : (("peril" : Str) == ("noticed" : Str)) = false := rfl
@[simp] theorem cq14 : (("peril" : Str) = ("noticed" : Str)) = False := eq_false (by decide)
@[simp] theorem cp15 : (("peril" : Str) == ("says" : Str)) = false := rfl
@[simp] theorem cq15 : (("peril" : Str) = ("says" : Str)) = False := eq_false (by decide)
@[simp] theorem cp16 : (("peril" : Str) == ("not" : Str)) = false := rfl
@[simp] theorem cq16 : (("peril" : Str) = ("not" : Str)) = False := eq_false (by decide)
@[simp] theorem cp17 : (("peril" : Str) == ("and" : Str)) = false := rfl
@[simp] theorem cq17 : (("peril" : Str) = ("and" : Str)) = False := eq_false (by decide)
@[simp] theorem cp18 : (("peril" : Str) == ("or" : Str)) = false := rfl
@[simp] theorem cq18 : (("peril" : Str) = ("or" : Str)) = False := eq_false (by decide)
@[simp] theorem cp19 : (("peril" : Str) == ("words" : Str)) = false := rfl
@[simp] theorem cq19 : (("peril" : Str) = ("words" : Str)) = False := eq_false (by decide)
@[simp] theorem cp20 : (("place" : Str) == ("always" : Str)) = false := rfl
@[simp] theorem cq20 : (("place" : Str) = ("always" : Str)) = False := eq_false (by decide)
@[simp] theorem cp21 : (("place" : Str) == ("peril" : Str)) = false := rfl
@[simp] theorem cq21 : (("place" : Str) = ("peril" : Str)) = False := eq_false (by decide)
@[simp] theorem cp22 : (("place" : Str) == ("object" : Str)) = false := rfl
@[simp] theorem cq22 : (("place" : Str) = ("object" : Str)) = False := eq_false (by decide)
@[simp] theorem cp23 : (("place" : Str) == ("day" : Str)) = false := rfl
@[simp] theorem cq23 : (("place" : Str) = ("day" : Str)) = False := eq_false (by decide)
@[simp] theorem cp24 : (("place" : Str) == ("noticed" : Str)) = false := rfl
@[simp] theorem cq24 : (("place" : Str) = ("noticed" : Str)) = False := eq_false (by decide)
@[simp] theorem cp25 : (("place" : Str) == ("says" : Str)) = false := rfl
@[simp] theorem cq25 : (("place" : Str) = ("says" : Str)) = False := eq_false (by decide)
@[simp] theorem cp26 : (("place" : Str) == ("not" : Str)) = false := rfl
@[simp] theorem cq26 : (("place" : Str) = ("not" : Str)) = False := eq_false (by decide)
@[simp] theorem cp27 : (("place" : Str) == ("and" : Str)) = false := rfl
@[simp] theorem cq27 : (("place" : Str) = ("and" : Str)) = False := eq_false (by decide)
@[simp] theorem cp28 : (("place" : Str) == ("or" : Str)) = false := rfl
@[simp] theorem cq28 : (("place" : Str) = ("or" : Str)) = False := eq_false (by decide)
@[simp] theorem cp29 : (("place" : Str) == ("words" : Str)) = false := rfl
@[simp] theorem cq29 : (("place" : Str) = ("words" : Str)) = False := eq_false (by decide)
@[simp] theorem cp30 : (("object" : Str) == ("always" : Str)) = false := rfl
@[simp] theorem cq30 : (("object" : Str) = ("always" : Str)) = False := eq_false (by decide)
@[simp] theorem cp31 : (("object" : Str) == ("peril" : Str)) = false := rfl
@[simp] theorem cq31 : (("object" : Str) = ("peril" : Str)) = False := eq_false (by decide)
@[simp] theorem cp32 : (("object" : Str) == ("place" : Str)) = false := rfl
@[simp] theorem cq32 : (("object" : Str) = ("place" : Str)) = False := eq_false (by decide)
@[simp] theorem cp33 : (("object" : Str) == ("day" : Str)) = false := rfl
@[simp] theorem cq33 : (("object" : Str) = ("day" : Str)) = False := eq_false (by decide)
@[simp] theorem cp34 : (("object" : Str) == ("noticed" : Str)) = false := rfl
@[simp] theorem cq34 : (("object" : Str) = ("noticed" : Str)) = False := eq_false (by decide)
@[simp] theorem cp35 : (("object" : Str) == ("says" : Str)) = false := rfl
@[simp] theorem cq35 : (("object" : Str) = ("says" : Str)) = False := eq_false (by decide)
@[simp] theorem cp36 : (("object" : Str) == ("not" : Str)) = false := rfl
@[simp] theorem cq36 : (("object" : Str) = ("not" : Str)) = False := eq_false (by decide)
@[simp] theorem cp37 : (("object" : Str) == ("and" : Str)) = false := rfl
@[simp] theorem cq37 : (("object" : Str) = ("and" : Str)) = False := eq_false (by decide)
@[simp] theorem cp38 : (("object" : Str) == ("or" : Str)) = false := rfl
@[simp] theorem cq38 : (("object" : Str) = ("or" : Str)) = False := eq_false (by decide)
@[simp] theorem cp39 : (("object" : Str) == ("words" : Str)) = false := rfl
@[simp] theorem cq39 : (("object" : Str) = ("words" : Str)) = False := eq_false (by decide)
@[simp] theorem cp40 : (("day" : Str) == ("always" : Str)) = false := rfl
@[simp] theorem cq40 : (("day" : Str) = ("always" : Str)) = False := eq_false (by decide)
@[simp] theorem cp41 : (("day" : Str) == ("peril" : Str)) = false := rfl
@[simp] theorem cq41 : (("day" : Str) = ("peril" : Str)) = False := eq_false (by decide)
@[simp] theorem cp42 : (("day" : Str) == ("place" : Str)) = false := rfl
@[simp] theorem cq42 : (("day" : Str) = ("place" : Str)) = False := eq_false (by decide)
@[simp] theorem cp43 : (("day" : Str) == ("object" : Str)) = false := rfl
@[simp] theorem cq43 : (("day" : Str) = ("object" : Str)) = False := eq_false (by decide)
@[simp] theorem cp44 : (("day" : Str) == ("noticed" : Str)) = false := rfl
@[simp] theorem cq44 : (("day" : Str) = ("noticed" : Str)) = False := eq_false (by decide)
@[simp] theorem cp45 : (("day" : Str) == ("says" : Str)) = false := rfl
@[simp] theorem cq45 : (("day" : Str) = ("says" : Str)) = False := eq_false (by decide)
@[simp] theorem cp46 : (("day" : Str) == ("not" : Str)) = false := rfl
@[simp] theorem cq46 : (("day" : Str) = ("not" : Str)) = False := eq_false (by decide)
@[simp] theorem cp47 : (("day" : Str) == ("and" : Str)) = false := rfl
@[simp] theorem cq47 : (("day" : Str) = ("and" : Str)) = False := eq_false (by decide)
@[simp] theorem cp48 : (("day" : Str) == ("or" : Str)) = false := rfl
@[simp] theorem cq48 : (("day" : Str) = ("or" : Str)) = False := eq_false (by decide)
@[simp] theorem cp49 : (("day" : Str) == ("words" : Str)) = false := rfl
@[simp] theorem cq49 : (("day" : Str) = ("words" : Str)) = False := eq_false (by decide)
@[simp] theorem cp50 : (("noticed" : Str) == ("always" : Str)) = false := rfl
@[simp] theorem cq50 : (("noticed" : Str) = ("always" : Str)) = False := eq_false (by decide)
@[simp] theorem cp51 : (("noticed" : Str) == ("peril" : Str)) = false := rfl
@[simp] theorem cq51 : (("noticed" : Str) = ("peril" : Str)) = False := eq_false (by decide)
@[simp] theorem cp52 : (("noticed" : Str) == ("place" : Str)) = false := rfl
@[simp] theorem cq52 : (("noticed" : Str) = ("place" : Str)) = False := eq_false (by decide)
@[simp] theorem cp53 : (("noticed" : Str) == ("object" : Str)) = false := rfl
@[simp] theorem cq53 : (("noticed" : Str) = ("object" : Str)) = False := eq_false (by decide)
@[simp] theorem cp54 : (("noticed" : Str) == ("day" : Str)) = false := rfl
@[simp] theorem cq54 : (("noticed" : Str) = ("day" : Str)) = False := eq_false (by decide)
@[simp] theorem cp55 : (("noticed" : Str) == ("says" : Str)) = false := rfl
@[simp] theorem cq55 : (("noticed" : Str) = ("says" : Str)) = False := eq_false (by decide)
@[simp] theorem cp56 : (("noticed" : Str) == ("not" : Str)) = false := rfl
@[simp] theorem cq56 : (("noticed" : Str) = ("not" : Str)) = False := eq_false (by decide)
@[simp] theorem cp57 : (("noticed" : Str) == ("and" : Str)) = false := rfl
@[simp] theorem cq57 : (("noticed" : Str) = ("and" : Str)) = False := eq_false (by decide)
@[simp] theorem cp58 : (("noticed" : Str) == ("or" : Str)) = false := rfl
@[simp] theorem cq58 : (("noticed" : Str) = ("or" : Str)) = False := eq_false (by decide)
@[simp] theorem cp59 : (("noticed" : Str) == ("words" : Str)) = false := rfl
@[simp] theorem cq59 : (("noticed" : Str) = ("words" : Str)) = False := eq_false (by decide)
@[simp] theorem cp60 : (("says" : Str) == ("always" : Str)) = false := rfl
@[simp] theorem cq60 : (("says" : Str) = ("always" : Str)) = False := eq_false (by decide)
@[simp] theorem cp61 : (("says" : Str) == ("peril" : Str)) = false := rfl
@[simp] theorem cq61 : (("says" : Str) = ("peril" : Str)) = False := eq_false (by decide)
@[simp] theorem cp62 : (("says" : Str) == ("place" : Str)) = false := rfl
@[simp] theorem cq62 : (("says" : Str) = ("place" : Str)) = False := eq_false (by decide)
@[simp] theorem cp63 : (("says" : Str) == ("object" : Str)) = false := rfl
@[simp] theorem cq63 : (("says" : Str) = ("object" : Str)) = False := eq_false (by decide)
@[simp] theorem cp64 : (("says" : Str) == ("day" : Str)) = false := rfl
@[simp] theorem cq64 : (("says" : Str) = ("day" : Str)) = False := eq_false (by decide)
@[simp] theorem cp65 : (("says" : Str) == ("noticed" : Str)) = false := rfl
@[simp] theorem cq65 : (("says" : Str) = ("noticed" : Str)) = False := eq_false (by decide)
@[simp] theorem cp66 : (("says" : Str) == ("not" : Str)) = false := rfl
@[simp] theorem cq66 : (("says" : Str) = ("not" : Str)) = False := eq_false (by decide)
@[simp] theorem cp67 : (("says" : Str) == ("and" : Str)) = false := rfl
@[simp] theorem cq67 : (("says" : Str) = ("and" : Str)) = False := eq_false (by decide)
@[simp] theorem cp68 : (("says" : Str) == ("or" : Str)) = false := rfl
@[simp] theorem cq68 : (("says" : Str) = ("or" : Str)) = False := eq_false (by decide)
@[simp] theorem cp69 : (("says" : Str) == ("words" : Str)) = false := rfl
@[simp] theorem cq69 : (("says" : Str) = ("words" : Str)) = False := eq_false (by decide)
@[simp] theorem cp70 : (("not" : Str) == ("always" : Str)) = false := rfl
@[simp] theorem cq70 : (("not" : Str) = ("always" : Str)) = False := eq_false (by decide)
@[simp] theorem cp71 : (("not" : Str) == ("peril" : Str)) = false := rfl
@[simp] theorem cq71 : (("not" : Str) = ("peril" : Str)) = False := eq_false (by decide)
@[simp] theorem cp72 : (("not" : Str) == ("place" : Str)) = false := rfl
@[simp] theorem cq72 : (("not" : Str) = ("place" : Str)) = False := eq_false (by decide)
@[simp] theorem cp73 : (("not" : Str) == ("object" : Str)) = false := rfl
@[simp] theorem cq73 : (("not" : Str) = ("object" : Str)) = False := eq_false (by decide)
@[simp] theorem cp74 : (("not" : Str) == ("day" : Str)) = false := rfl
@[simp] theorem cq74 : (("not" : Str) = ("day" : Str)) = False := eq_false (by decide)
@[simp] theorem cp75 : (("not" : Str) == ("noticed" : Str)) = false := rfl
@[simp] theorem cq75 : (("not" : Str) = ("noticed" : Str)) = False := eq_false (by decide)
@[simp] theorem cp76 : (("not" : Str) == ("says" : Str)) = false := rfl
@[simp] theorem cq76 : (("not" : Str) = ("says" : Str)) = False := eq_false (by decide)
@[simp] theorem cp77 : (("not" : Str) == ("and" : Str)) = false := rfl
@[simp] theorem cq77 : (("not" : Str) = ("and" : Str)) = False := eq_false (by decide)
@[simp] theorem cp78 : (("not" : Str) == ("or" : Str)) = false := rfl
@[simp] theorem cq78 : (("not" : Str) = ("or" : Str)) = False := eq_false (by decide)
@[simp] theorem cp79 : (("not" : Str) == ("words" : Str)) = false := rfl
@[simp] theorem cq79 : (("not" : Str) = ("words" : Str)) = False := eq_false (by decide)
@[simp] theorem cp80 : (("and" : Str) == ("always" : Str)) = false := rfl
@[simp] theorem cq80 : (("and" : Str) = ("always" : Str)) = False := eq_false (by decide)
@[simp] theorem cp81 : (("and" : Str) == ("peril" : Str)) = false := rfl
@[simp] theorem cq81 : (("and" : Str) = ("peril" : Str)) = False := eq_false (by decide)
@[simp] theorem cp82 : (("and" : Str) == ("place" : Str)) = false := rfl
@[simp] theorem cq82 : (("and" : Str) = ("place" : Str)) = False := eq_false (by decide)
@[simp] theorem cp83 : (("and" : Str) == ("object" : Str)) = false := rfl
@[simp] theorem cq83 : (("and" : Str) = ("object" : Str)) = False := eq_false (by decide)
@[simp] theorem cp84 : (("and" : Str) == ("day" : Str)) = false := rfl
@[simp] theorem cq84 : (("and" : Str) = ("day" : Str)) = False := eq_false (by decide)
@[simp] theorem cp85 : (("and" : Str) == ("noticed" : Str)) = false := rfl
@[simp] theorem cq85 : (("and" : Str) = ("noticed" : Str)) = False := eq_false (by decide)
@[simp] theorem cp86 : (("and" : Str) == ("says" : Str)) = false := rfl
@[simp] theorem cq86 : (("and" : Str) = ("says" : Str)) = False := eq_false (by decide)
@[simp] theorem cp87 : (("and" : Str) == ("not" : Str)) = false := rfl
@[simp] theorem cq87 : (("and" : Str) = ("not" : Str)) = False := eq_false (by decide)
@[simp] theorem cp88 : (("and" : Str) == ("or" : Str)) = false := rfl
@[simp] theorem cq88 : (("and" : Str) = ("or" : Str)) = False := eq_false (by decide)
@[simp] theorem cp89 : (("and" : Str) == ("words" : Str)) = false := rfl
@[simp] theorem cq89 : (("and" : Str) = ("words" : Str)) = False := eq_false (by decide)
@[simp] theorem cp90 : (("or" : Str) == ("always" : Str)) = false := rfl
@[simp] theorem cq90 : (("or" : Str) = ("always" : Str)) = False := eq_false (by decide)
@[simp] theorem cp91 : (("or" : Str) == ("peril" : Str)) = false := rfl
@[simp] theorem cq91 : (("or" : Str) = ("peril" : Str)) = False := eq_false (by decide)
@[simp] theorem cp92 : (("or" : Str) == ("place" : Str)) = false := rfl
@[simp] theorem cq92 : (("or" : Str) = ("place" : Str)) = False := eq_false (by decide)
@[simp] theorem cp93 : (("or" : Str) == ("object" : Str)) = false := rfl
@[simp] theorem cq93 : (("or" : Str) = ("object" : Str)) = False := eq_false (by decide)
@[simp] theorem cp94 : (("or" : Str) == ("day" : Str)) = false := rfl
@[simp] theorem cq94 : (("or" : Str) = ("day" : Str)) = False := eq_false (by decide)
@[simp] theorem cp95 : (("or" : Str) == ("noticed" : Str)) = false := rfl
@[simp] theorem cq95 : (("or" : Str) = ("noticed" : Str)) = False := eq_false (by decide)
@[simp] theorem cp96 : (("or" : Str) == ("says" : Str)) = false := rfl
@[simp] theorem cq96 : (("or" : Str) = ("says" : Str)) = False := eq_false (by decide)
@[simp] theorem cp97 : (("or" : Str) == ("not" : Str)) = false := rfl
@[simp] theorem cq97 : (("or" : Str) = ("not" : Str)) = False := eq_false (by decide)
@[simp] theorem cp98 : (("or" : Str) == ("and" : Str)) = false := rfl
@[simp] theorem cq98 : (("or" : Str) = ("and" : Str)) = False := eq_false (by decide)
@[simp] theorem cp99 : (("or" : Str) == ("words" : Str)) = false := rfl
@[simp] theorem cq99 : (("or" : Str) = ("words" : Str)) = False := eq_false (by decide)
@[simp] theorem cp100 : (("words" : Str) == ("always" : Str)) = false := rfl
@[simp] theorem cq100 : (("words" : Str) = ("always" : Str)) = False := eq_false (by decide)
@[simp] theorem cp101 : (("words" : Str) == ("peril" : Str)) = false := rfl
@[simp] theorem cq101 : (("words" : Str) = ("peril" : Str)) = False := eq_false (by decide)
@[simp] theorem cp102 : (("words" : Str) == ("place" : Str)) = false := rfl
@[simp] theorem cq102 : (("words" : Str) = ("place" : Str)) = False := eq_false (by decide)
@[simp] theorem cp103 : (("words" : Str) == ("object" : Str)) = false := rfl
@[simp] theorem cq103 : (("words" : Str) = ("object" : Str)) = False := eq_false (by decide)
@[simp] theorem cp104 : (("words" : Str) == ("day" : Str)) = false := rfl
@[simp] theorem cq104 : (("words" : Str) = ("day" : Str)) = False := eq_false (by decide)
@[simp] theorem cp105 : (("words" : Str) == ("noticed" : Str)) = false := rfl
@[simp] theorem cq105 : (("words" : Str) = ("noticed" : Str)) = False := eq_false (by decide)
@[simp] theorem cp106 : (("words" : Str) == ("says" : Str)) = false := rfl
@[simp] theorem cq106 : (("words" : Str) = ("says" : Str)) = False := eq_false (by decide)
@[simp] theorem cp107 : (("words" : Str) == ("not" : Str)) = false := rfl
@[simp] theorem cq107 : (("words" : Str) = ("not" : Str)) = False := eq_false (by decide)
@[simp] theorem cp108 : (("words" : Str) == ("and" : Str)) = false := rfl
@[simp] theorem cq108 : (("words" : Str) = ("and" : Str)) = False := eq_false (by decide)
@[simp] theorem cp109 : (("words" : Str) == ("or" : Str)) = false := rfl
@[simp] theorem cq109 : (("words" : Str) = ("or" : Str)) = False := eq_false (by decide)
theorem eq_ll : eqD (.list []) (.list []) = some true := by rw [eqD_sh (by decide) (by decide)]; simp [PyData.eqv, PyData.eqvAll]
theorem eq_tt : eqD (.tuple []) (.tuple []) = some true := by rw [eqD_sh (by decide) (by decide)]; simp [PyData.eqv, PyData.eqvAll]
theorem name_ok (x : Str) (h1 : Nm.txOk x = true) (h2 : Nm.isName (.str x) = true) : F_is_name [.d (.str x)] [] = .ok (.d (.bool true)) [] := by
  have := Nm.is_name_ (p := fun _ => true) (d := .str x) ⟨by simp [Nm.dAll, h1], by simp [PyData.depth]⟩
  rw [h2] at this
  exact this
theorem name_fire : F_is_name [.d (.str "fire")] [] = .ok (.d (.bool true)) [] := name_ok _ (by decide +kernel) (by decide +kernel)
theorem name_a : F_is_name [.d (.str "a")] [] = .ok (.d (.bool true)) [] := name_ok _ (by decide +kernel) (by decide +kernel)
theorem name_b : F_is_name [.d (.str "b")] [] = .ok (.d (.bool true)) [] := name_ok _ (by decide +kernel) (by decide +kernel)
theorem is_tuple_t (xs : List D) (a b : Int) : F_is_tuple [.d (.tuple xs), .d (.int a), .d (.int b)] [] = .ok (.d (.bool (decide (a ≤ xs.length) && decide ((xs.length : Int) ≤ b)))) [] := by
  simp [F_is_tuple, B_is_tuple]
  by_cases h : a ≤ xs.length <;> simp [h]
theorem conds_always : F_conditions_in [.d (.tuple [.str "always"])] [] = .ok (.d (.list [])) [] := by
  simp [F_conditions_in, B_conditions_in]
theorem names_fire : F_are_names [.d (.tuple [.str "fire"])] [] = .ok (.d (.bool true)) [] := by
  simp [F_are_names, B_are_names, is_tuple_t, name_fire, lcL_cons, eq_ll]
theorem conds_fire : F_conditions_in [.d (.tuple [.str "peril", .str "fire"])] [] = .ok (.d (.list [])) [] := by
  simp [F_conditions_in, B_conditions_in, names_fire]
theorem cond_of (K : PySem.W.Frag) {d : D} (c : F_conditions_in [.d d] [] = .ok (.d (.list [])) []) : F_is_condition K [.d d] [] = .ok (.d (.bool true)) [] := by
  simp [F_is_condition, B_is_condition, F_are_few__conditions_in, B_are_few__conditions_in, sWhile, gWhile_succ, popG, c]
theorem layer_nil : F_is_layer [.d (.tuple [])] [] = .ok (.d (.bool true)) [] := by
  simp [F_is_layer, B_is_layer, eq_tt]
theorem back_nil : F_is_back [.d (.tuple [])] [] = .ok (.d (.bool true)) [] := by
  simp [F_is_back, B_is_back, eq_tt]
def fine (p : Py) (z : Int) : Prop := okb z p ∧ Gn (vf z p)
def IsM (z : Int) : Prop := 0 ≤ z ∧ z ≤ 1000000000000
abbrev lineB : G := (gSeq (sSet 5 (eFrz (eCall (F_line_of 60) (aCons (eBin ixD (eV 3) (eC (.int (1)))) (aCons (eV 4) aNil)))))
        (sIf (tOrM (op1 isnD (eV 5)) (tNotM (tT (eFrz (eCall F_is_gentle (aCons (eV 5) aNil)))))) (sRet (eRv (eC (.bool false)))) gNil))
theorem line_step (n : Nat) {p : Py} (g : Good p) (hd : 2 * dep p < 60) (hc : cnt p < 100000) {z : Int} (hz : IsM z) (s0 s1 s2 c s5 s6 : S) (cd : D) (hcd : c = .d (.tuple [cd, enc p])) : ∃ t5, (fine p z ∧ lineB [s0, s1, s2, c, .d (.int z), s5, s6] [] = .nx [s0, s1, s2, c, .d (.int z), t5, s6] []) ∨ (¬ fine p z ∧ lineB [s0, s1, s2, c, .d (.int z), s5, s6] [] = .rt (.d (.bool false)) []) := by
  subst hcd
  rcases line_of_ z hz p 60 g hd hc with ⟨hk, rs, e, h, hl⟩ | ⟨hk, e⟩
  · obtain ⟨b, e1, e2⟩ := is_gentle_ h (B15 hk.bv) (by omega)
    have e3 := eCall_d (F := F_is_gentle) (g := aCons (eV 5) aNil) (ρ := [s0, s1, s2, .d (.tuple [cd, enc p]), .d (.int z), .d (.list (rs.map eR)), s6]) (ss := [.d (.list (rs.map eR))]) (cs := []) (by generalize rs.map eR = L; simp) rfl e1
    have e4 := eCall_d (F := F_line_of 60) (g := aCons (eBin ixD (eV 3) (eC (.int (1)))) (aCons (eV 4) aNil)) (ρ := [s0, s1, s2, .d (.tuple [cd, enc p]), .d (.int z), s5, s6]) (ss := [.d (enc p), .d (.int z)]) (cs := []) (by simp) rfl e
    refine ⟨.d (.list (rs.map eR)), ?_⟩
    generalize rs.map eR = L at *
    cases b with
    | true => exact .inl ⟨⟨hk, e2.1 rfl⟩, by simp [-eCall_, e3, e4]⟩
    | false => exact .inr ⟨fun q => (by have := e2.2 q.2; cases this), by simp [-eCall_, e3, e4]⟩
  · have e4 := eCall_d (F := F_line_of 60) (g := aCons (eBin ixD (eV 3) (eC (.int (1)))) (aCons (eV 4) aNil)) (ρ := [s0, s1, s2, .d (.tuple [cd, enc p]), .d (.int z), s5, s6]) (ss := [.d (enc p), .d (.int z)]) (cs := []) (by simp) rfl e
    exact ⟨.no, .inr ⟨fun q => hk q.1, by simp [-eCall_, e4]⟩⟩
theorem line_loop {p : Py} (g : Good p) (hd : 2 * dep p < 60) (hc : cnt p < 100000) (s0 s1 s2 c s6 : S) (cd : D) (hcd : c = .d (.tuple [cd, enc p])) : ∀ (zs : List Int) (s4 s5 : S), (∀ z ∈ zs, IsM z) →
    ((∀ z ∈ zs, fine p z) ∧ ∃ t4 t5, gFor (gtN 4) lineB (zs.map .int) [s0, s1, s2, c, s4, s5, s6] [] = .nx [s0, s1, s2, c, t4, t5, s6] []) ∨ ((¬ ∀ z ∈ zs, fine p z) ∧ gFor (gtN 4) lineB (zs.map .int) [s0, s1, s2, c, s4, s5, s6] [] = .rt (.d (.bool false)) [])
  | [], s4, s5, _ => .inl ⟨by simp, s4, s5, rfl⟩
  | z :: zs, s4, s5, h => by
    obtain ⟨t5, ⟨a, e⟩ | ⟨a, e⟩⟩ := line_step 0 g hd hc (h z (by simp)) s0 s1 s2 c s5 s6 cd hcd
    · rw [List.map_cons, gFor_cons]
      simp only [gtN_, List.set_cons_succ, List.set_cons_zero]
      rw [e]
      rcases line_loop g hd hc s0 s1 s2 c s6 cd hcd zs (.d (.int z)) t5 (fun y hy => h y (by simp [hy])) with ⟨k, r⟩ | ⟨k, r⟩
      · exact .inl ⟨fun y hy => by
          rcases List.mem_cons.1 hy with rfl | hy
          · exact a
          · exact k y hy, r⟩
      · exact .inr ⟨fun q => k fun y hy => q y (by simp [hy]), r⟩
    · rw [List.map_cons, gFor_cons]
      simp only [gtN_, List.set_cons_succ, List.set_cons_zero]
      rw [e]
      exact .inr ⟨fun q => a (q z (by simp)), rfl⟩
abbrev termB (K : PySem.W.Frag) : G := (gSeq (sIf (tOrM (tNotM (tT (eFrz (eCall F_is_tuple (aCons (eV 3) (aCons (eC (.int (2))) (aCons (eC (.int (2))) aNil))))))) (tOrM (tNotM (tT (eFrz (eCall (F_is_condition K) (aCons (eBin ixD (eV 3) (eC (.int (0)))) aNil))))) (tNotM (tT (eFrz (eCall (F_is_pay K) (aCons (eBin ixD (eV 3) (eC (.int (1)))) aNil))))))) (sRet (eRv (eC (.bool false)))) gNil)
      (sFor (gtN 4) (iAnyM (eCd sortedSetG (aCons (eFrz (eLc (iAnyM (eV 2)) (gtN 6) tYesM (eBin ixD (eV 6) (eC (.int (1)))) [6])) aNil))) (gSeq (sSet 5 (eFrz (eCall (F_line_of 60) (aCons (eBin ixD (eV 3) (eC (.int (1)))) (aCons (eV 4) aNil)))))
        (sIf (tOrM (op1 isnD (eV 5)) (tNotM (tT (eFrz (eCall F_is_gentle (aCons (eV 5) aNil)))))) (sRet (eRv (eC (.bool false)))) gNil))))
/-- the sums of one or two objects -/
def sumsD : List Int → List D
  | [x] => [.tuple [.str "a", .int x]]
  | [x, y] => [.tuple [.str "a", .int x], .tuple [.str "b", .int y]]
  | _ => []
def Two (ss : List Int) : Prop := (∃ x, ss = [x]) ∨ ∃ x y, ss = [x, y]
theorem sums_lc {ss : List Int} (h : Two ss) (s0 s1 s2 s3 s4 s5 : S) : lcL (gtN 6) tYesM (eBin ixD (eV 6) (eC (.int (1)))) [s0, s1, s2, s3, s4, s5, .no] (sumsD ss) [] [] = .ok (.own (.lst (ss.map .int))) [] := by
  have z1 : 1 < sizeLine := size_lt (by omega)
  rcases h with ⟨x, rfl⟩ | ⟨x, y, rfl⟩ <;> simp [sumsD, lcL_cons, z1]
theorem term_step (K : PySem.W.Frag) {ss : List Int} (ts : Two ss) (hs : ∀ z ∈ ss, IsM z) {p : Py} (g : Good p) (hd : 2 * dep p < 60) (hc : cnt p < 100000) (hz : sz p ≤ 60) {cd : D} (c : F_is_condition K [.d cd] [] = .ok (.d (.bool true)) []) (s0 s1 s4 s5 s6 : S) :
    ∃ t4 t5, ((∀ z ∈ ss, fine p z) ∧ termB K [s0, s1, .d (.tuple (sumsD ss)), .d (.tuple [cd, enc p]), s4, s5, s6] [] = .nx [s0, s1, .d (.tuple (sumsD ss)), .d (.tuple [cd, enc p]), t4, t5, s6] []) ∨
    ((¬ ∀ z ∈ ss, fine p z) ∧ termB K [s0, s1, .d (.tuple (sumsD ss)), .d (.tuple [cd, enc p]), s4, s5, s6] [] = .rt (.d (.bool false)) []) := by
  have hl : ss.length < 4000 := by rcases ts with ⟨x, rfl⟩ | ⟨x, y, rfl⟩ <;> simp
  obtain ⟨zs, e1, _, hm, zl⟩ := srt_int hl
  have all_iff : (∀ z ∈ zs, fine p z) ↔ ∀ z ∈ ss, fine p z := ⟨fun k z hz => k z ((hm z).2 hz), fun k z hz => k z ((hm z).1 hz)⟩
  have lc := sums_lc ts s0 s1 (.d (.tuple (sumsD ss))) (.d (.tuple [cd, enc p])) s4 s5
  have ip := is_pay_ K p g hz
  have st1 : (sIf (tOrM (tNotM (tT (eFrz (eCall F_is_tuple (aCons (eV 3) (aCons (eC (.int (2))) (aCons (eC (.int (2))) aNil))))))) (tOrM (tNotM (tT (eFrz (eCall (F_is_condition K) (aCons (eBin ixD (eV 3) (eC (.int (0)))) aNil))))) (tNotM (tT (eFrz (eCall (F_is_pay K) (aCons (eBin ixD (eV 3) (eC (.int (1)))) aNil))))))) (sRet (eRv (eC (.bool false)))) gNil) [s0, s1, .d (.tuple (sumsD ss)), .d (.tuple [cd, enc p]), s4, s5, s6] [] = .nx [s0, s1, .d (.tuple (sumsD ss)), .d (.tuple [cd, enc p]), s4, s5, s6] [] := by
    have it := is_tuple_t [cd, enc p] 2 2
    have q1 := eCall_d (F := F_is_tuple) (g := aCons (eV 3) (aCons (eC (.int (2))) (aCons (eC (.int (2))) aNil))) (ρ := [s0, s1, .d (.tuple (sumsD ss)), .d (.tuple [cd, enc p]), s4, s5, s6]) (cs := []) (by simp) rfl it
    have q2 := eCall_d (F := F_is_condition K) (g := aCons (eBin ixD (eV 3) (eC (.int (0)))) aNil) (ρ := [s0, s1, .d (.tuple (sumsD ss)), .d (.tuple [cd, enc p]), s4, s5, s6]) (cs := []) (ss := [.d cd]) (by simp) rfl c
    have q3 := eCall_d (F := F_is_pay K) (g := aCons (eBin ixD (eV 3) (eC (.int (1)))) aNil) (ρ := [s0, s1, .d (.tuple (sumsD ss)), .d (.tuple [cd, enc p]), s4, s5, s6]) (cs := []) (ss := [.d (enc p)]) (by simp) rfl ip
    simp [-eCall_, q1, q2, q3]
  have it2 : iAnyM (eCd sortedSetG (aCons (eFrz (eLc (iAnyM (eV 2)) (gtN 6) tYesM (eBin ixD (eV 6) (eC (.int (1)))) [6])) aNil)) [s0, s1, .d (.tuple (sumsD ss)), .d (.tuple [cd, enc p]), s4, s5, s6] [] = .ok (zs.map .int) [] := by
    generalize sumsD ss = SD at *
    generalize zs.map PyData.int = L4 at *
    simp [lc, sortedSetG_list, e1]
  rcases line_loop g hd hc s0 s1 (.d (.tuple (sumsD ss))) (.d (.tuple [cd, enc p])) s6 cd rfl zs s4 s5 (fun z hz => hs z ((hm z).1 hz)) with ⟨k, t4, t5, e⟩ | ⟨k, e⟩
  · exact ⟨t4, t5, .inl ⟨all_iff.1 k, gSeq_of st1 (sFor_of it2 e)⟩⟩
  · exact ⟨.no, .no, .inr ⟨fun z => k (all_iff.2 z), gSeq_of st1 (sFor_of it2 e)⟩⟩
theorem unl1 : F_are_unlike [.d (.list [.str "a"])] [] = .ok (.d (.bool true)) [] := by
  have e : lenSetG [.list [.str "a"]] = some (.int 1) := rfl
  simp [F_are_unlike, B_are_unlike, e, -lenSetG_list]
theorem unl2 : F_are_unlike [.d (.list [.str "a", .str "b"])] [] = .ok (.d (.bool true)) [] := by
  have e : lenSetG [.list [.str "a", .str "b"]] = some (.int 2) := by kernel_rfl
  simp [F_are_unlike, B_are_unlike, e, -lenSetG_list]
def wordsD (terms : List D) (ss : List Int) : D := .tuple [.str "words", .tuple terms, .tuple (sumsD ss), .tuple [], .tuple [], .tuple [], .int 0, .int 0]
abbrev W1 : G := (sIf (tOrM (tNotM (tT (eFrz (eCall F_is_tuple (aCons (eV 0) (aCons (eC (.int (8))) (aCons (eC (.int (8))) aNil))))))) (tOrM (tNotM (tT (eIsa "str" (eBin ixD (eV 0) (eC (.int (0))))))) (op2 neD (eBin ixD (eV 0) (eC (.int (0)))) (eC (.str "words"))))) (sRet (eRv (eC (.bool false)))) gNil)
abbrev W3 : G := (sIf (tOrM (tNotM (tT (eFrz (eCall F_is_tuple (aCons (eV 1) (aCons (eC (.int (0))) (aCons (eC (.int (12))) aNil))))))) (tNotM (tT (eFrz (eCall F_is_tuple (aCons (eV 2) (aCons (eC (.int (1))) (aCons (eC (.int (12))) aNil)))))))) (sRet (eRv (eC (.bool false)))) gNil)
abbrev W4 : G := (sFor (gtN 3) (iAnyM (eV 2)) (sIf (tOrM (tNotM (tT (eFrz (eCall F_is_tuple (aCons (eV 3) (aCons (eC (.int (2))) (aCons (eC (.int (2))) aNil))))))) (tOrM (tNotM (tT (eFrz (eCall F_is_name (aCons (eBin ixD (eV 3) (eC (.int (0)))) aNil))))) (tNotM (tT (eFrz (eCall F_is_money (aCons (eBin ixD (eV 3) (eC (.int (1)))) aNil))))))) (sRet (eRv (eC (.bool false)))) gNil))
theorem w1_ (terms : List D) (ss : List Int) : W1 [.d (wordsD terms ss), .no, .no, .no, .no, .no, .no] [] = .nx [.d (wordsD terms ss), .no, .no, .no, .no, .no, .no] [] := by
  unfold wordsD
  simp [is_tuple_t]
theorem w3_ (w : S) {terms : List D} {ss : List Int} (ts : Two ss) (hl : terms.length ≤ 2) : W3 [w, .d (.tuple terms), .d (.tuple (sumsD ss)), .no, .no, .no, .no] [] = .nx [w, .d (.tuple terms), .d (.tuple (sumsD ss)), .no, .no, .no, .no] [] := by
  have h1 : (terms.length : Int) ≤ 12 := by omega
  rcases ts with ⟨x, rfl⟩ | ⟨x, y, rfl⟩ <;> simp [is_tuple_t, sumsD, h1]
theorem w4_ (w t : S) {ss : List Int} (ts : Two ss) (hs : ∀ z ∈ ss, IsM z) : ∃ s3, W4 [w, t, .d (.tuple (sumsD ss)), .no, .no, .no, .no] [] = .nx [w, t, .d (.tuple (sumsD ss)), s3, .no, .no, .no] [] := by
  unfold IsM at hs
  rcases ts with ⟨x, rfl⟩ | ⟨x, y, rfl⟩
  · obtain ⟨a, b⟩ := hs x (by simp)
    exact ⟨_, by simp [is_tuple_t, sumsD, gFor_cons, name_a, is_money_, a, b]; rfl⟩
  · obtain ⟨a, b⟩ := hs x (by simp)
    obtain ⟨c, d⟩ := hs y (by simp)
    exact ⟨_, by simp [is_tuple_t, sumsD, gFor_cons, name_a, name_b, is_money_, a, b, c, d]; rfl⟩
theorem atI7 {α : Type} (a b c d e f g h : α) (r : List α) : atI (a :: b :: c :: d :: e :: f :: g :: h :: r) 7 = some h := atI_of (n := 7) rfl rfl
theorem money0 : F_is_money [.d (.int 0)] [] = .ok (.d (.bool true)) [] := by rw [is_money_]; rfl
theorem fine_loss {z : Int} (h : IsM z) : fine .loss z := by
  refine ⟨fun x a b => ?_, rfl, fun x a b => .inr ?_⟩
  · show x.natAbs ≤ _; omega
  · show x + 1 - x = 1; omega
abbrev W6 (K : PySem.W.Frag) : G := (sFor (gtN 3) (iAnyM (eV 1)) (gSeq (sIf (tOrM (tNotM (tT (eFrz (eCall F_is_tuple (aCons (eV 3) (aCons (eC (.int (2))) (aCons (eC (.int (2))) aNil))))))) (tOrM (tNotM (tT (eFrz (eCall (F_is_condition K) (aCons (eBin ixD (eV 3) (eC (.int (0)))) aNil))))) (tNotM (tT (eFrz (eCall (F_is_pay K) (aCons (eBin ixD (eV 3) (eC (.int (1)))) aNil))))))) (sRet (eRv (eC (.bool false)))) gNil)
      (sFor (gtN 4) (iAnyM (eCd sortedSetG (aCons (eFrz (eLc (iAnyM (eV 2)) (gtN 6) tYesM (eBin ixD (eV 6) (eC (.int (1)))) [6])) aNil))) (gSeq (sSet 5 (eFrz (eCall (F_line_of 60) (aCons (eBin ixD (eV 3) (eC (.int (1)))) (aCons (eV 4) aNil)))))
        (sIf (tOrM (op1 isnD (eV 5)) (tNotM (tT (eFrz (eCall F_is_gentle (aCons (eV 5) aNil)))))) (sRet (eRv (eC (.bool false)))) gNil)))))
def T0 : D := .tuple [.tuple [.str "always"], enc .loss]
def T1 (p : Py) : D := .tuple [.tuple [.str "peril", .str "fire"], enc p]
theorem w6_one (K : PySem.W.Frag) {ss : List Int} (ts : Two ss) (hs : ∀ z ∈ ss, IsM z) {p : Py} (g : Good p) (hd : 2 * dep p < 60) (hc : cnt p < 100000) (hz : sz p ≤ 60) (w t s3 s4 s5 : S) :
    ∃ t3 t4 t5, ((∀ z ∈ ss, fine p z) ∧ gFor (gtN 3) (termB K) [T1 p] [w, t, .d (.tuple (sumsD ss)), s3, s4, s5, .no] [] = .nx [w, t, .d (.tuple (sumsD ss)), t3, t4, t5, .no] []) ∨
    ((¬ ∀ z ∈ ss, fine p z) ∧ gFor (gtN 3) (termB K) [T1 p] [w, t, .d (.tuple (sumsD ss)), s3, s4, s5, .no] [] = .rt (.d (.bool false)) []) := by
  obtain ⟨t4, t5, ⟨a, e⟩ | ⟨a, e⟩⟩ := term_step K ts hs g hd hc hz (cond_of K conds_fire) w t s4 s5 .no
  · refine ⟨.d (T1 p), t4, t5, .inl ⟨a, ?_⟩⟩
    rw [gFor_cons]
    simp only [gtN_, List.set_cons_succ, List.set_cons_zero, T1]
    rw [e]; rfl
  · refine ⟨.no, .no, .no, .inr ⟨a, ?_⟩⟩
    rw [gFor_cons]
    simp only [gtN_, List.set_cons_succ, List.set_cons_zero, T1]
    rw [e]
theorem w6_two (K : PySem.W.Frag) {ss : List Int} (ts : Two ss) (hs : ∀ z ∈ ss, IsM z) {p : Py} (g : Good p) (hd : 2 * dep p < 60) (hc : cnt p < 100000) (hz : sz p ≤ 60) (w t s3 s4 s5 : S) :
    ∃ t3 t4 t5, ((∀ z ∈ ss, fine p z) ∧ gFor (gtN 3) (termB K) [T0, T1 p] [w, t, .d (.tuple (sumsD ss)), s3, s4, s5, .no] [] = .nx [w, t, .d (.tuple (sumsD ss)), t3, t4, t5, .no] []) ∨
    ((¬ ∀ z ∈ ss, fine p z) ∧ gFor (gtN 3) (termB K) [T0, T1 p] [w, t, .d (.tuple (sumsD ss)), s3, s4, s5, .no] [] = .rt (.d (.bool false)) []) := by
  obtain ⟨t4, t5, ⟨a, e⟩ | ⟨a, e⟩⟩ := term_step K ts hs (p := .loss) trivial (by simp [dep]) (by simp [cnt]) (by simp [sz]) (cond_of K conds_always) w t s4 s5 .no
  · obtain ⟨u3, u4, u5, q⟩ := w6_one K ts hs g hd hc hz w t (.d T0) t4 t5
    refine ⟨u3, u4, u5, ?_⟩
    have : gFor (gtN 3) (termB K) [T0, T1 p] [w, t, .d (.tuple (sumsD ss)), s3, s4, s5, .no] [] = gFor (gtN 3) (termB K) [T1 p] [w, t, .d (.tuple (sumsD ss)), .d T0, t4, t5, .no] [] := by
      rw [gFor_cons]
      simp only [gtN_, List.set_cons_succ, List.set_cons_zero, T0]
      rw [e]
    rw [this]; exact q
  · exact absurd (fun z hz => fine_loss (hs z hz)) a
def termsD (two : Bool) (p : Py) : List D := if two then [T0, T1 p] else [T1 p]
theorem words_ (K : PySem.W.Frag) {ss : List Int} (ts : Two ss) (hs : ∀ z ∈ ss, IsM z) {p : Py} (g : Good p) (hd : 2 * dep p < 60) (hc : cnt p < 100000) (hz : sz p ≤ 60) (two : Bool) :
    ((∀ z ∈ ss, fine p z) ∧ F_are_words K [.d (wordsD (termsD two p) ss)] [] = .ok (.d (.bool true)) []) ∨ ((¬ ∀ z ∈ ss, fine p z) ∧ F_are_words K [.d (wordsD (termsD two p) ss)] [] = .ok (.d (.bool false)) []) := by
  have s1 := w1_ (termsD two p) ss
  have tl : (termsD two p).length ≤ 2 := by cases two <;> simp [termsD]
  generalize hw : S.d (wordsD (termsD two p) ss) = w at s1 ⊢
  have s2 : sPar 1 2 (eBin ixD (eV 0) (eC (.int (1)))) (eBin ixD (eV 0) (eC (.int (2)))) [w, .no, .no, .no, .no, .no, .no] [] = .nx [w, .d (.tuple (termsD two p)), .d (.tuple (sumsD ss)), .no, .no, .no, .no] [] := by
    subst hw; unfold wordsD; simp
  have s3 := w3_ w ts tl
  obtain ⟨x3, s4⟩ := w4_ w (.d (.tuple (termsD two p))) ts hs
  have s5 : sIf (tNotM (tT (eFrz (eCall F_are_unlike (aCons (eFrz (eLc (iAnyM (eV 2)) (gtN 3) tYesM (eBin ixD (eV 3) (eC (.int (0)))) [3])) aNil))))) (sRet (eRv (eC (.bool false)))) gNil [w, .d (.tuple (termsD two p)), .d (.tuple (sumsD ss)), x3, .no, .no, .no] [] = .nx [w, .d (.tuple (termsD two p)), .d (.tuple (sumsD ss)), x3, .no, .no, .no] [] := by
    have z1 : 1 < sizeLine := size_lt (by omega)
    rcases ts with ⟨x, rfl⟩ | ⟨x, y, rfl⟩ <;> simp [sumsD, lcL_cons, unl1, unl2, z1]
  have s6 : ∃ t3 t4 t5, ((∀ z ∈ ss, fine p z) ∧ W6 K [w, .d (.tuple (termsD two p)), .d (.tuple (sumsD ss)), x3, .no, .no, .no] [] = .nx [w, .d (.tuple (termsD two p)), .d (.tuple (sumsD ss)), t3, t4, t5, .no] []) ∨
    ((¬ ∀ z ∈ ss, fine p z) ∧ W6 K [w, .d (.tuple (termsD two p)), .d (.tuple (sumsD ss)), x3, .no, .no, .no] [] = .rt (.d (.bool false)) []) := by
    have it : iAnyM (eV 1) [w, .d (.tuple (termsD two p)), .d (.tuple (sumsD ss)), x3, .no, .no, .no] [] = .ok (termsD two p) [] := by generalize termsD two p = L; simp
    cases two with
    | true =>
      obtain ⟨t3, t4, t5, ⟨a, e⟩ | ⟨a, e⟩⟩ := w6_two K ts hs g hd hc hz w (.d (.tuple (termsD true p))) x3 .no .no
      · exact ⟨t3, t4, t5, .inl ⟨a, sFor_of it e⟩⟩
      · exact ⟨t3, t4, t5, .inr ⟨a, sFor_of it e⟩⟩
    | false =>
      obtain ⟨t3, t4, t5, ⟨a, e⟩ | ⟨a, e⟩⟩ := w6_one K ts hs g hd hc hz w (.d (.tuple (termsD false p))) x3 .no .no
      · exact ⟨t3, t4, t5, .inl ⟨a, sFor_of it e⟩⟩
      · exact ⟨t3, t4, t5, .inr ⟨a, sFor_of it e⟩⟩
  obtain ⟨t3, t4, t5, ⟨a, e⟩ | ⟨a, e⟩⟩ := s6
  · refine .inl ⟨a, ?_⟩
    have s7 : sIf (tOrM (tNotM (tT (eFrz (eCall F_is_layer (aCons (eBin ixD (eV 0) (eC (.int (3)))) aNil))))) (tOrM (tNotM (tT (eFrz (eCall F_is_layer (aCons (eBin ixD (eV 0) (eC (.int (4)))) aNil))))) (tNotM (tT (eFrz (eCall F_is_back (aCons (eBin ixD (eV 0) (eC (.int (5)))) aNil))))))) (sRet (eRv (eC (.bool false)))) gNil [w, .d (.tuple (termsD two p)), .d (.tuple (sumsD ss)), t3, t4, t5, .no] [] = .nx [w, .d (.tuple (termsD two p)), .d (.tuple (sumsD ss)), t3, t4, t5, .no] [] := by
      subst hw; unfold wordsD
      simp [layer_nil, back_nil]
    have s8 : sRet (eRv (eAndM (eFrz (eCall F_is_money (aCons (eBin ixD (eV 0) (eC (.int (6)))) aNil))) (eFrz (eCall F_is_money (aCons (eBin ixD (eV 0) (eC (.int (7)))) aNil))))) [w, .d (.tuple (termsD two p)), .d (.tuple (sumsD ss)), t3, t4, t5, .no] [] = .rt (.d (.bool true)) [] := by
      subst hw; unfold wordsD
      simp [money0, atI7]
    unfold F_are_words
    rw [runG_]
    exact (congrArg (fin 0) (gSeq_of s1 (gSeq_of s2 (gSeq_of s3 (gSeq_of s4 (gSeq_of s5 (gSeq_of e (gSeq_of s7 s8)))))))).trans (by simp)
  · refine .inr ⟨a, ?_⟩
    unfold F_are_words
    rw [runG_]
    exact (congrArg (fin 0) (gSeq_of s1 (gSeq_of s2 (gSeq_of s3 (gSeq_of s4 (gSeq_of s5 (two_of e (fun _ _ => by simp)))))))).trans (by simp)
theorem sTry_ {i : Nat} {known sub : Str → Bool} {h : Str → Addr → G} {g : G} {ρ : List S} {cs : Store} : sTry i known sub h g ρ cs = match g ρ cs with
  | .er c ρ' cs' => if known c = true then (if sub c = true then hAs i h c ρ' cs' else .er c ρ' cs') else .no
  | o => o := rfl
theorem told_yes (K : PySem.W.Frag) {d : D} (h : F_are_words K [.d d] [] = .ok (.d (.bool true)) []) : F__law_told K [.d d] [] = .ok (.d (.bool true)) [] := by
  have r : F_check_words K [.d d] [] = .ok (.d .none) [] := by simp [F_check_words, B_check_words, h]
  simp [F__law_told, B__law_told, sTry_, r]
theorem told_no (K : PySem.W.Frag) {d : D} (h : F_are_words K [.d d] [] = .ok (.d (.bool false)) []) : F__law_told K [.d d] [] = .ok (.d (.bool false)) [] := by
  have r : F_check_words K [.d d] [] = .er "BadWords" [] := by simp [F_check_words, B_check_words, h]
  have k1 : exKnown "BadWords" = true := rfl
  have k2 : exSub_BadWords "BadWords" = true := rfl
  have k3 : exSub_WhatbefellError "BadWords" = true := rfl
  have hh := hAs_of (i := 1) (h := fun c a => (sRet (eRv (eIf (tT (eIsE 1 a (exSub_BadWords c))) (eC (.bool false)) (eC .none))))) (c := "BadWords") (ρ := [.d d, .no]) (cs := []) (o := .rt (.d (.bool false)) []) (fun a => by
    simp [eIsE, k2])
  simp [F__law_told, B__law_told, sTry_, r, k1, k3, hh]
theorem any_pay_ {nums : List Int} (h : InR nums) : ∀ (d n k : Nat), d < n → d ≤ 7 → k + 4 * 2 ^ (d + 1) < 1000000000000 → ∃ p k', F__law_any_pay n [.cel 0, .d (.int d)] (DS nums k) = .ok (.d (enc p)) (DS nums k') ∧ Good p ∧ dep p ≤ d ∧ sz p < 2 ^ (d + 1) ∧ cnt p + 2 ≤ 3 * 4 ^ d ∧ k ≤ k' ∧ k' + 4 ≤ k + 4 * 2 ^ (d + 1)
  | d, 0, _, h, _, _ => by omega
  | d, n + 1, k, h1, h2, h3 => by
    have p2 : 2 ^ (d + 1) = 2 * 2 ^ d := by rw [Nat.pow_succ]; omega
    have p3 : 0 < 2 ^ d := Nat.pow_pos (by decide)
    have p9 : 0 < 4 ^ d := Nat.pow_pos (by decide)
    have l1 := dr_lo (k := k) h
    have l2 := dr_hi (k := k) h
    obtain ⟨_, ⟨a, rfl, a1, a2⟩, ha⟩ := atI_mod (xs := [.int 0, .int 1, .int 2, .int 5, .int 10, .int 50, .int 1000, .int 1000000, .int 1000000000000]) (P := fun x => ∃ i, x = .int i ∧ 0 ≤ i ∧ i ≤ 1000000000000) (dr nums (k + 1)) 9 rfl (by decide) (by simp)
    have d0 := drc (c := []) (k := k) h (by omega) (k + 1) rfl
    have d1 := drc (c := []) (k := k + 1) h (by omega) (k + 2) rfl
    have d2 := drc (c := []) (k := k + 2) h (by omega) (k + 3) rfl
    by_cases c1 : dr nums k % 12 < 3 ∨ d = 0
    · obtain ⟨_, ⟨p, rfl, q1, q2, q3, q4⟩, hp⟩ := atI_mod (xs := [.str "loss", .str "loss", .str "sum", .int a, .int a]) (P := fun x => ∃ p, x = enc p ∧ Good p ∧ dep p = 0 ∧ sz p = 1 ∧ cnt p = 1) (dr nums (k + 2)) 5 rfl (by simp) (by
        have hl : ∃ p, PyData.str "loss" = enc p ∧ Good p ∧ dep p = 0 ∧ sz p = 1 ∧ cnt p = 1 := ⟨.loss, rfl, trivial, rfl, rfl, rfl⟩
        have hs : ∃ p, PyData.str "sum" = enc p ∧ Good p ∧ dep p = 0 ∧ sz p = 1 ∧ cnt p = 1 := ⟨.sum, rfl, trivial, rfl, rfl, rfl⟩
        have hn : ∃ p, PyData.int a = enc p ∧ Good p ∧ dep p = 0 ∧ sz p = 1 ∧ cnt p = 1 := ⟨.num a, rfl, ⟨a1, a2⟩, rfl, rfl, rfl⟩
        intro x hx
        simp at hx
        rcases hx with rfl | rfl | rfl
        · exact hl
        · exact hs
        · exact hn)
      refine ⟨p, k + 3, ?_, q1, by omega, by omega, by omega, by omega, by omega⟩
      by_cases c2 : dr nums k % 12 < 3
      · simp [F__law_any_pay, B__law_any_pay, d0, d1, d2, ha, hp, c2, -callC_]
      · have c3 : d = 0 := by omega
        subst c3
        simp [F__law_any_pay, B__law_any_pay, d0, d1, d2, ha, hp, c2, -callC_]
    · obtain ⟨d, rfl⟩ : ∃ e, d = e + 1 := ⟨d - 1, by omega⟩
      have c2 : ¬ dr nums k % 12 < 3 := by omega
      have c4 : ¬ ((d + 1 : Nat) : Int) = 0 := by omega
      have c5 : ((d + 1 : Nat) : Int) - 1 = d := by omega
      have c9 : ¬ (d : Int) + 1 = 0 := by omega
      have p4 : 2 ^ (d + 1) = 2 * 2 ^ d := by rw [Nat.pow_succ]; omega
      have p5 : 0 < 2 ^ d := Nat.pow_pos (by decide)
      have p6 : 4 ^ (d + 1) = 4 * 4 ^ d := by rw [Nat.pow_succ]; omega
      have p7 : 0 < 4 ^ d := Nat.pow_pos (by decide)
      obtain ⟨p, k1, e1, g1, g2, g3, g6, g4, g5⟩ := any_pay_ h d n (k + 2) (by omega) (by omega) (by omega)
      have e1' := callC_DS (c := []) rfl e1
      have d3 := drc (c := []) (k := k1) h (by omega) (k1 + 1) rfl
      by_cases c6 : dr nums k % 12 = 3
      · obtain ⟨_, ⟨t, rfl, t1, t2⟩, ht⟩ := atI_mod (xs := [.int 0, .int 1, .int 2, .int 3, .int 1000]) (P := fun x => ∃ i, x = .int i ∧ 0 ≤ i ∧ i ≤ 1000) (dr nums k1) 5 rfl (by decide) (by simp)
        refine ⟨.times t p, k1 + 1, ?_, ⟨t1, t2, g1⟩, by simp [dep]; omega, by simp [sz]; omega, by simp only [cnt]; omega, by omega, by omega⟩
        simp [F__law_any_pay, B__law_any_pay, d0, d1, e1', d3, ha, ht, c2, c4, c9, c5, c6, -callC_, enc]
      · by_cases c7 : dr nums k % 12 = 4
        · obtain ⟨_, ⟨t, rfl, t1, t2⟩, ht⟩ := atI_mod (xs := [.int 0, .int 1, .int 5, .int 100]) (P := fun x => ∃ i, x = .int i ∧ 0 ≤ i ∧ i ≤ 1000) (dr nums k1) 4 rfl (by decide) (by simp)
          refine ⟨.over p a t, k1 + 1, ?_, ⟨a1, a2, t1, by omega, g1⟩, by simp [dep]; omega, by simp [sz]; omega, by simp only [cnt]; omega, by omega, by omega⟩
          simp [F__law_any_pay, B__law_any_pay, d0, d1, e1', d3, ha, ht, c2, c4, c9, c5, c6, c7, -callC_, enc]
        · obtain ⟨q, k2, e2, i1, i2, i3, i6, i4, i5⟩ := any_pay_ h d n k1 (by omega) (by omega) (by omega)
          have e2' := callC_DS (c := []) rfl e2
          have d4 := drc (c := []) (k := k2) h (by omega) (k2 + 1) rfl
          have d5 := drc (c := []) (k := k2 + 1) h (by omega) (k2 + 2) rfl
          by_cases c8 : dr nums k % 12 = 5
          · obtain ⟨_, ⟨t, rfl, t1, t2⟩, ht⟩ := atI_mod (xs := [.int 0, .int 1, .int 5, .int 10, .int 100]) (P := fun x => ∃ i, x = .int i ∧ 0 ≤ i ∧ i ≤ 1000) (dr nums k2) 5 rfl (by decide) (by simp)
            obtain ⟨_, ⟨u, rfl, u1, u2⟩, hu⟩ := atI_mod (xs := [.int 0, .int 1, .int 5, .int 1000000]) (P := fun x => ∃ i, x = .int i ∧ 0 ≤ i ∧ i ≤ 1000000) (dr nums (k2 + 1)) 4 rfl (by decide) (by simp)
            refine ⟨.iff t (t + u) p q, k2 + 2, ?_, ⟨t1, by omega, by omega, g1, i1⟩, by simp [dep]; omega, by simp [sz]; omega, by simp only [cnt]; omega, by omega, by omega⟩
            simp [F__law_any_pay, B__law_any_pay, d0, d1, e1', e2', d4, d5, ha, ht, hu, c2, c4, c9, c5, c6, c7, c8, -callC_, enc]
          · obtain ⟨_, ⟨o, rfl⟩, ho⟩ := atI_mod (xs := [.str "plus", .str "minus", .str "min", .str "max"]) (P := fun x => ∃ o : Op, x = .str o.nm) (dr nums k) 4 rfl (by decide) (by
              intro x hx
              simp at hx
              rcases hx with rfl | rfl | rfl | rfl
              · exact ⟨.plus, rfl⟩
              · exact ⟨.minus, rfl⟩
              · exact ⟨.min, rfl⟩
              · exact ⟨.max, rfl⟩)
            refine ⟨.bin o p q, k2, ?_, ⟨g1, i1⟩, by simp [dep]; omega, by simp [sz]; omega, by simp only [cnt]; omega, by omega, by omega⟩
            simp [F__law_any_pay, B__law_any_pay, d0, d1, e1', e2', ha, ho, c2, c4, c9, c5, c6, c7, c8, -callC_, enc]
/-- bounds of soft pays -/
structure Soft (d : Nat) (p : Py) : Prop where
  g : Good p
  h : dep p ≤ 2 + 3 * d
  s : sz p + 5 ≤ 9 * 2 ^ d
  c : cnt p + 5 ≤ 27 * 17 ^ d
theorem soft_ {nums : List Int} (h : InR nums) : ∀ (d n k : Nat), d < n → d ≤ 7 → k + 8 * 2 ^ (d + 1) < 1000000000000 → ∃ p k', F__law_soft n [.cel 0, .d (.int d)] (DS nums k) = .ok (.d (enc p)) (DS nums k') ∧ Soft d p ∧ k ≤ k' ∧ k' + 4 ≤ k + 8 * 2 ^ (d + 1)
  | d, 0, _, h, _, _ => by omega
  | 0, n + 1, k, h1, h2, h3 => by
    obtain ⟨_, ⟨a, rfl, a1, a2⟩, ha⟩ := atI_mod (xs := [.int 1, .int 2, .int 5, .int 10, .int 100, .int 1000000]) (P := fun x => ∃ i, x = .int i ∧ 0 ≤ i ∧ i ≤ 1000000) (dr nums k) 6 rfl (by decide) (by simp)
    obtain ⟨_, ⟨b, rfl, b1, b2⟩, hb⟩ := atI_mod (xs := [.int 0, .int 1, .int 4, .int 10, .int 99]) (P := fun x => ∃ i, x = .int i ∧ 0 ≤ i ∧ i ≤ 99) (dr nums (k + 1)) 5 rfl (by decide) (by simp)
    have d0 := drc (c := []) (k := k) h (by omega) (k + 1) rfl
    have d1 := drc (c := []) (k := k + 1) h (by omega) (k + 2) rfl
    have d2 := drc (c := []) (k := k + 2) h (by omega) (k + 3) rfl
    obtain ⟨_, ⟨p, rfl, q⟩, hp⟩ := atI_mod (xs := [.str "loss", .tuple [.str "over", .str "loss", .int a, .int b], .tuple [.str "min", .str "loss", .str "sum"], .tuple [.str "minus", .str "loss", .tuple [.str "over", .str "loss", .int a, .int b]]]) (P := fun x => ∃ p, x = enc p ∧ Soft 0 p) (dr nums (k + 2)) 4 rfl (by simp) (by
      have go : Good (.over .loss a b) := ⟨a1, by omega, b1, by omega, trivial⟩
      have h1 : ∃ p, PyData.str "loss" = enc p ∧ Soft 0 p := ⟨.loss, rfl, trivial, by decide, by decide, by decide⟩
      have h2 : ∃ p, PyData.tuple [.str "over", .str "loss", .int a, .int b] = enc p ∧ Soft 0 p := ⟨.over .loss a b, rfl, go, by simp [dep], by simp [sz], by simp [cnt]⟩
      have h3 : ∃ p, PyData.tuple [.str "min", .str "loss", .str "sum"] = enc p ∧ Soft 0 p := ⟨.bin .min .loss .sum, rfl, ⟨trivial, trivial⟩, by simp [dep], by simp [sz], by simp [cnt]⟩
      have h4 : ∃ p, PyData.tuple [.str "minus", .str "loss", .tuple [.str "over", .str "loss", .int a, .int b]] = enc p ∧ Soft 0 p := ⟨.bin .minus .loss (.over .loss a b), rfl, ⟨trivial, go⟩, by simp [dep], by simp [sz], by simp [cnt]⟩
      intro x hx
      simp at hx
      rcases hx with rfl | rfl | rfl | rfl
      · exact h1
      · exact h2
      · exact h3
      · exact h4)
    refine ⟨p, k + 3, ?_, q, by omega, by omega⟩
    simp [F__law_soft, B__law_soft, d0, d1, d2, ha, hb, hp, -callC_]
  | d + 1, n + 1, k, h1, h2, h3 => by
    have p4 : 2 ^ (d + 1) = 2 * 2 ^ d := by rw [Nat.pow_succ]; omega
    have p5 : 0 < 2 ^ d := Nat.pow_pos (by decide)
    have p8 : 2 ^ (d + 1 + 1) = 2 * 2 ^ (d + 1) := by rw [Nat.pow_succ]; omega
    have p6 : 17 ^ (d + 1) = 17 * 17 ^ d := by rw [Nat.pow_succ]; omega
    have p7 : 0 < 17 ^ d := Nat.pow_pos (by decide)
    obtain ⟨_, ⟨a, rfl, a1, a2⟩, ha⟩ := atI_mod (xs := [.int 1, .int 2, .int 5, .int 10, .int 100, .int 1000000]) (P := fun x => ∃ i, x = .int i ∧ 0 ≤ i ∧ i ≤ 1000000) (dr nums k) 6 rfl (by decide) (by simp)
    obtain ⟨_, ⟨b, rfl, b1, b2⟩, hb⟩ := atI_mod (xs := [.int 0, .int 1, .int 4, .int 10, .int 99]) (P := fun x => ∃ i, x = .int i ∧ 0 ≤ i ∧ i ≤ 99) (dr nums (k + 1)) 5 rfl (by decide) (by simp)
    have d0 := drc (c := []) (k := k) h (by omega) (k + 1) rfl
    have d1 := drc (c := []) (k := k + 1) h (by omega) (k + 2) rfl
    obtain ⟨p, k1, e1, ⟨g1, g2, g3, g4⟩, g5, g6⟩ := soft_ h d n (k + 2) (by omega) (by omega) (by omega)
    obtain ⟨q, k2, e2, ⟨i1, i2, i3, i4⟩, i5, i6⟩ := soft_ h d n k1 (by omega) (by omega) (by omega)
    have e1' := callC_DS (c := []) rfl e1
    have e2' := callC_DS (c := []) rfl e2
    have d3 := drc (c := []) (k := k2) h (by omega) (k2 + 1) rfl
    have c9 : ¬ (d : Int) + 1 = 0 := by omega
    have r0 := Int.emod_nonneg (dr nums k2) (b := 8) (by decide)
    have r1 := Int.emod_lt_of_pos (dr nums k2) (b := 8) (by decide)
    generalize hm : dr nums k2 % 8 = m at *
    have fin : ∀ r, F__law_soft (n + 1) [.cel 0, .d (.int ((d + 1 : Nat) : Int))] (DS nums k) = .ok (.d (enc r)) (DS nums (k2 + 1)) → Good r → dep r ≤ 2 + 3 * (d + 1) → sz r + 5 ≤ 9 * 2 ^ (d + 1) → cnt r + 5 ≤ 27 * 17 ^ (d + 1) → ∃ p k', F__law_soft (n + 1) [.cel 0, .d (.int ((d + 1 : Nat) : Int))] (DS nums k) = .ok (.d (enc p)) (DS nums k') ∧ Soft (d + 1) p ∧ k ≤ k' ∧ k' + 4 ≤ k + 8 * 2 ^ (d + 1 + 1) := fun r e u1 u2 u3 u4 => ⟨r, k2 + 1, e, ⟨u1, u2, u3, u4⟩, by omega, by omega⟩
    have gp : ∀ x : Int, 0 ≤ x → x ≤ 2000000 → Good (.over p a x) := fun x y z => ⟨a1, by omega, y, by omega, g1⟩
    have gq : ∀ x : Int, 0 ≤ x → x ≤ 2000000 → Good (.over q a x) := fun x y z => ⟨a1, by omega, y, by omega, i1⟩
    have cd : ((d + 1 : Nat) : Int) - 1 = d := by omega
    rcases (by omega : m = 0 ∨ m = 1 ∨ m = 2 ∨ m = 3 ∨ m = 4 ∨ m = 5 ∨ m = 6 ∨ m = 7) with c | c | c | c | c | c | c | c <;> subst c
    · refine fin (.bin .min p q) ?_ ⟨g1, i1⟩ (by simp only [dep]; omega) (by simp only [sz]; omega) (by simp only [cnt]; omega)
      simp [F__law_soft, B__law_soft, d0, d1, d3, ha, hb, e1', e2', hm, c9, -callC_, enc, Op.nm]
    · refine fin (.bin .max p q) ?_ ⟨g1, i1⟩ (by simp only [dep]; omega) (by simp only [sz]; omega) (by simp only [cnt]; omega)
      simp [F__law_soft, B__law_soft, d0, d1, d3, ha, hb, e1', e2', hm, c9, -callC_, enc, Op.nm]
    · refine fin (.over p a b) ?_ (gp b (by omega) (by omega)) (by simp only [dep]; omega) (by simp only [sz]; omega) (by simp only [cnt]; omega)
      simp [F__law_soft, B__law_soft, d0, d1, d3, ha, hb, e1', e2', hm, c9, -callC_, enc, Op.nm]
    · refine fin (.bin .plus (.over p a 0) (.over q a (a + b))) ?_ ⟨gp 0 (by omega) (by omega), gq (a + b) (by omega) (by omega)⟩ (by simp only [dep]; omega) (by simp only [sz]; omega) (by simp only [cnt]; omega)
      simp [F__law_soft, B__law_soft, d0, d1, d3, ha, hb, e1', e2', hm, c9, -callC_, enc, Op.nm]
    · refine fin (.iff 0 a p (.bin .plus (.over p a 0) (.over .loss 1000000000000 a))) ?_ ⟨by omega, by omega, by omega, g1, gp 0 (by omega) (by omega), by omega, by omega, by omega, by omega, trivial⟩ (by simp only [dep]; omega) (by simp only [sz]; omega) (by simp only [cnt]; omega)
      simp [F__law_soft, B__law_soft, d0, d1, d3, ha, hb, e1', e2', hm, c9, -callC_, enc, Op.nm]
    · refine fin (.bin .minus p (.over p a b)) ?_ ⟨g1, gp b (by omega) (by omega)⟩ (by simp only [dep]; omega) (by simp only [sz]; omega) (by simp only [cnt]; omega)
      simp [F__law_soft, B__law_soft, d0, d1, d3, ha, hb, e1', e2', hm, c9, -callC_, enc, Op.nm]
    · refine fin (.iff 0 b (.num 0) (.bin .max (.bin .minus .loss (.num b)) (.num 0))) ?_ ⟨by omega, by omega, by omega, ⟨by omega, by omega⟩, ⟨trivial, by omega, by omega⟩, by omega, by omega⟩ (by simp only [dep]; omega) (by simp only [sz]; omega) (by simp only [cnt]; omega)
      simp [F__law_soft, B__law_soft, d0, d1, d3, ha, hb, e1', e2', hm, c9, -callC_, enc, Op.nm]
    · refine fin (.bin .max (.bin .minus (.bin .plus p q) .loss) (.num 0)) ?_ ⟨⟨⟨g1, i1⟩, trivial⟩, by omega, by omega⟩ (by simp only [dep]; omega) (by simp only [sz]; omega) (by simp only [cnt]; omega)
      simp [F__law_soft, B__law_soft, d0, d1, d3, ha, hb, e1', e2', hm, c9, -callC_, enc, Op.nm]
theorem frz_c {f : List S → M Rv} {ρ : List S} {cs cs' : Store} {xs : List D} (h : f ρ cs = .ok (.own (.lst xs)) cs') : eFrz f ρ cs = .ok (.d (.list xs)) cs' := by
  rw [eFrz_, bnd_ok h]; rfl
theorem frz_d {f : List S → M Rv} {ρ : List S} {cs cs' : Store} {x : D} (h : f ρ cs = .ok (.d x) cs') : eFrz f ρ cs = .ok (.d x) cs' := by
  rw [eFrz_, bnd_ok h]; rfl
theorem elc_c {it : List S → M (List D)} {tg : D → List S → Option (List S)} {t : List S → M Bool} {f : List S → M S} {vs : List Nat} {ρ : List S} {cs cs' : Store} {xs : List D} {r : Res Rv} (h : it ρ cs = .ok xs cs') (h2 : lcL tg t f (wipeS ρ vs) xs [] cs' = r) : eLc it tg t f vs ρ cs = r := by
  rw [eLc_, bnd_ok h]; exact h2
theorem pay_ (K : PySem.W.Frag) {t s : Int} (ht : IsM t) (hs : IsM s) (p : Py) (h : Good p) (h2 : sz p ≤ 60) (h3 : dep p < 30) : F_pay K [.d (enc p), .d (.int t), .d (.int s)] [] = .ok (.d (.int (val t s p))) [] := by
  unfold IsM at ht hs
  have e := paid_by_ (t := t) (s := s) (by omega) (by omega) p 30 h h3 (by omega)
  have e1 := is_pay_ K p h h2
  simp [F_pay, B_pay, e, e1, is_money_, ht, hs]
theorem equal_int (n : Nat) (x : Int) : F__law_equal (n + 1) [.d (.int x), .d (.int x)] [] = .ok (.d (.bool true)) [] := by
  simp [F__law_equal, B__law_equal]
theorem equal_bool (n : Nat) (x : Bool) : F__law_equal (n + 1) [.d (.bool x), .d (.bool x)] [] = .ok (.d (.bool true)) [] := by
  simp [F__law_equal, B__law_equal]
def rowOf (p : Py) (x : Int) : D := match F__law_pieces 30 [.d (enc p), .d (.int x)] [] with
  | .ok (.d d) _ => d
  | _ => .none
def risOf (d : D) : Bool := match F__law_rises [.d d] [] with
  | .ok (.d (.bool b)) _ => b
  | _ => false
theorem risOf_ {d : D} {b : Bool} {cs : Store} (e : F__law_rises [.d d] [] = .ok (.d (.bool b)) cs) : risOf d = b := by unfold risOf; rw [e]
structure Fit (p : Py) : Prop where
  g : Good p
  d : dep p ≤ 15
  z : sz p ≤ 60
  c : cnt p < 3500
theorem row_ {p : Py} (f : Fit p) {x : Int} (hx : IsM x) : F__law_pieces 30 [.d (enc p), .d (.int x)] [] = .ok (.d (rowOf p x)) [] ∧ ((okb x p ∧ ∃ rs, rowOf p x = .list (rs.map eL) ∧ LL rs (vf x p) (1000 ^ dep p) ∧ rs.length ≤ cnt p) ∨ (¬ okb x p ∧ rowOf p x = .none)) := by
  have fd := f.d
  rcases law_pieces_ x hx p 30 f.g f.d (by omega) f.c with ⟨hk, rs, e, h, hl⟩ | ⟨hk, e⟩
  · have r : rowOf p x = .list (rs.map eL) := by unfold rowOf; rw [e]
    rw [r]
    exact ⟨e, .inl ⟨hk, rs, rfl, h, hl⟩⟩
  · have r : rowOf p x = .none := by unfold rowOf; rw [e]
    rw [r]
    exact ⟨e, .inr ⟨hk, rfl⟩⟩
theorem rise_ {p : Py} (f : Fit p) {x : Int} (hx : IsM x) (hk : okb x p) : F__law_rises [.d (rowOf p x)] [] = .ok (.d (.bool (risOf (rowOf p x)))) [] ∧ (risOf (rowOf p x) = true ↔ Gn (vf x p)) := by
  rcases (row_ f hx).2 with ⟨_, rs, e, h, hl⟩ | ⟨hn, _⟩
  · have fd := f.d
    have fc := f.c
    obtain ⟨b, e1, e2⟩ := law_rises_ h (Nat.le_trans (Nat.pow_le_pow_right (by decide) fd) (by decide)) (by omega)
    clear h
    generalize rowOf p x = w at e ⊢
    rw [← e] at e1
    clear e
    rw [risOf_ e1]
    exact ⟨e1, e2⟩
  · exact absurd hk hn
def nonD : D → Bool | .none => true | _ => false
theorem rows_sh {rs : List Lr} : (PyData.list (rs.map eL)).canLay0 = true ∧ (PyData.list (rs.map eL)).depth ≤ 2 := by
  have a : PyData.canLayAll0 (rs.map eL) = true ∧ PyData.depthAll (rs.map eL) ≤ 1 := by
    induction rs with
    | nil => simp [PyData.canLayAll0, PyData.depthAll]
    | cons r t ih => simp [PyData.canLayAll0, PyData.depthAll, eL, PyData.canLay0, PyData.depth, ih]
  simp [PyData.canLay0, PyData.depth, a]
theorem none_in {p : Py} (f : Fit p) {ss : List Int} (h : ∀ x ∈ ss, IsM x) : ninD .none (.list (ss.map (rowOf p))) = some (!(ss.any fun x => nonD (rowOf p x))) := by
  have sh : ∀ x ∈ ss, (rowOf p x).canLay0 = true ∧ (rowOf p x).depth ≤ 2 := fun x hx => by
    rcases (row_ f (h x hx)).2 with ⟨_, rs, e, _⟩ | ⟨_, e⟩
    · rw [e]; exact rows_sh
    · rw [e]; simp [PyData.canLay0, PyData.depth]
  have a : PyData.canLayAll0 (ss.map (rowOf p)) = true ∧ PyData.depthAll (ss.map (rowOf p)) ≤ 2 := by
    clear h
    induction ss with
    | nil => simp [PyData.canLayAll0, PyData.depthAll]
    | cons r t ih =>
      have i := ih fun x hx => sh x (by simp [hx])
      have j := sh r (by simp)
      simp [PyData.canLayAll0, PyData.depthAll, i, j]; omega
  have s : SeqAt.shaped (.list (ss.map (rowOf p))) = true := by
    simp [SeqAt.shaped, PyData.canLay0, PyData.depth, a]; omega
  have n : SeqAt.shaped .none = true := shaped_none
  rw [ninD_eq, inD_lst, s, n]
  have e : ∀ d : D, PyData.eqv d .none = nonD d := fun d => by cases d <;> simp [PyData.eqv, nonD]
  simp [e]; rfl
theorem false_in (bs : List Bool) : ninD (.bool false) (.list (bs.map .bool)) = some (bs.all id) := by
  have fl : (bs.map PyData.bool).all flatD = true := by simp [flatD]
  rw [ninD_eq, inD_lst, fl]
  have e : ∀ b : Bool, PyData.eqv (.bool b) (.bool false) = !b := fun b => by cases b <;> simp [PyData.eqv]
  have q : (bs.map PyData.bool).any (fun y => PyData.eqv y (.bool false)) = !(bs.all id) := by
    induction bs with
    | nil => rfl
    | cons b t ih =>
      have ih' := ih (by simp [flatD])
      rw [List.map_cons, List.any_cons, ih', e, List.all_cons]
      cases b <;> simp
  simp only [q, flatD, Bool.true_and, Bool.true_or, if_true]
  simp
theorem iRngN {f : List S → M S} {ρ : List S} {cs cs' : Store} {n : Nat} (h : f ρ cs = .ok (.d (.int (n : Int))) cs') (hn : n ≤ 1000000) : iRng f ρ cs = .ok (rngD 0 n) cs' := by
  have a : -(2 ^ 62) ≤ (n : Int) ∧ (n : Int) < 2 ^ 62 := ⟨by omega, by omega⟩
  rw [iRng_]
  unfold bnd
  rw [h]
  show (if -(2 ^ 62) ≤ (n : Int) ∧ (n : Int) < 2 ^ 62 then ret (rngD 0 (n : Int).toNat) else stuck) cs' = _
  rw [if_pos a, Int.toNat_natCast]
  rfl
abbrev TA : G := (sSet 3 (eFrz (eCallC (F__law_soft 12) (aCons (eV 1) (aCons (eBin modD (eV 2) (eC (.int (3)))) aNil)))))
abbrev TB : G := (sIf (op2 eqD (eBin modD (eV 2) (eC (.int (3)))) (eC (.int (2)))) (sSet 3 (eFrz (eCallC (F__law_any_pay 12) (aCons (eV 1) (aCons (eBin addD (eC (.int (1))) (eBin modD (eFrz (eCallC F__law_draw (aCons (eV 1) aNil))) (eC (.int (4))))) aNil))))) gNil)
abbrev TC : G := (sSet 4 (eFrz (eLc (iRng (eBin addD (eC (.int (1))) (eBin modD (eFrz (eCallC F__law_draw (aCons (eV 1) aNil))) (eC (.int (2)))))) (gtN 10) tYesM (eBin ixD (eFrz (eLst (aCons (eC (.int (0))) (aCons (eC (.int (3))) (aCons (eC (.int (100))) (aCons (eBin powD (eC (.int (10))) (eC (.int (12)))) aNil)))))) (eBin modD (eFrz (eCallC F__law_draw (aCons (eV 1) aNil))) (eC (.int (4))))) [10])))
abbrev TD : G := (sSet 5 (eFrz (eLc (iAnyM (eV 4)) (gtN 11) tYesM (eFrz (eCall (F__law_pieces 30) (aCons (eV 3) (aCons (eV 11) aNil)))) [11])))
abbrev TE : G := (sSet 6 (eAndM (eCmp ninD (eC .none) (eV 5)) (eCmp ninD (eC (.bool false)) (eFrz (eLc (iAnyM (eV 5)) (gtN 12) tYesM (eFrz (eCall F__law_rises (aCons (eV 12) aNil))) [12])))))
abbrev TF : G := (sSet 7 (eSl (eTup (aCons (eTup (aCons (eTup (aCons (eC (.str "always")) aNil)) (aCons (eC (.str "loss")) aNil))) (aCons (eTup (aCons (eTup (aCons (eC (.str "peril")) (aCons (eC (.str "fire")) aNil))) (aCons (eV 3) aNil))) aNil))) (oSome (eBin modD (eFrz (eCallC F__law_draw (aCons (eV 1) aNil))) (eC (.int (2))))) oNone))
abbrev TG : G := (sSet 8 (eTup (aCons (eC (.str "words")) (aCons (eV 7) (aCons (eCd tupleG (aCons (eFrz (eLc (iRng (eCd lenG (aCons (eV 4) aNil))) (gtN 10) tYesM (eTup (aCons (eBin ixD (eFrz (eLst (aCons (eC (.str "a")) (aCons (eC (.str "b")) aNil)))) (eV 10)) (aCons (eBin ixD (eV 4) (eV 10)) aNil))) [10])) aNil)) (aCons (eTup aNil) (aCons (eTup aNil) (aCons (eTup aNil) (aCons (eC (.int (0))) (aCons (eC (.int (0))) aNil))))))))))
noncomputable abbrev TH (K : PySem.W.Frag) : G := (sIf (tNotM (tT (eFrz (eCall (F__law_equal 12) (aCons (eFrz (eCall (F__law_told K) (aCons (eV 8) aNil))) (aCons (eV 6) aNil)))))) (sRet (eRv (eC (.bool false)))) gNil)
noncomputable abbrev TI (K : PySem.W.Frag) : G := (sFor (gtN 9) (iAnyM (eFrz (eLst (aCons (eC (.int (0))) (aCons (eC (.int (1))) (aCons (eBin modD (eFrz (eCallC F__law_draw (aCons (eV 1) aNil))) (eC (.int (120)))) (aCons (eFrz (eCallC F__law_draw (aCons (eV 1) aNil))) (aCons (eBin powD (eC (.int (10))) (eC (.int (12)))) aNil)))))))) (sIf (tAndM (tNotM (op1 isnD (eBin ixD (eV 5) (eC (.int (0)))))) (tNotM (tT (eFrz (eCall (F__law_equal 12) (aCons (eFrz (eCall (F_pay K) (aCons (eV 3) (aCons (eBin ixD (eV 4) (eC (.int (0)))) (aCons (eV 9) aNil))))) (aCons (eBin ixD (eFrz (eCall F__law_at (aCons (eBin ixD (eV 5) (eC (.int (0)))) (aCons (eV 9) aNil)))) (eC (.int (0)))) aNil))))))) (sRet (eRv (eC (.bool false)))) gNil))
theorem ta_ {nums : List Int} (h : InR nums) (k : Nat) (hk : k < 1000000) (j : Int) (j0 : 0 ≤ j) (sc x3 x4 x5 x6 x7 x8 x9 x10 x11 x12 : S) : ∃ p k', Fit p ∧ k ≤ k' ∧ k' ≤ k + 300 ∧ gSeq TA TB [sc, .cel 0, .d (.int j), x3, x4, x5, x6, x7, x8, x9, x10, x11, x12] (DS nums k) = .nx [sc, .cel 0, .d (.int j), .d (enc p), x4, x5, x6, x7, x8, x9, x10, x11, x12] (DS nums k') := by
  have r0 := Int.emod_nonneg j (b := 3) (by decide)
  have r1 := Int.emod_lt_of_pos j (b := 3) (by decide)
  obtain ⟨m, hm⟩ : ∃ m : Nat, j % 3 = (m : Int) := ⟨(j % 3).toNat, by omega⟩
  have m2 : 2 ^ (m + 1) ≤ 2 ^ 3 := Nat.pow_le_pow_right (by decide) (by omega)
  obtain ⟨p, k1, e1, f1, k2, k3⟩ := soft_ h m 12 k (by omega) (by omega) (by omega)
  have e1' := callC_DS (c := []) rfl e1
  have sA : TA [sc, .cel 0, .d (.int j), x3, x4, x5, x6, x7, x8, x9, x10, x11, x12] (DS nums k) = .nx [sc, .cel 0, .d (.int j), .d (enc p), x4, x5, x6, x7, x8, x9, x10, x11, x12] (DS nums k1) := by
    simp [hm, e1', -callC_]
  by_cases c : j % 3 = 2
  · have l1 := dr_lo (k := k1) h
    have l2 := dr_hi (k := k1) h
    have q0 := Int.emod_nonneg (dr nums k1) (b := 4) (by decide)
    have q1 := Int.emod_lt_of_pos (dr nums k1) (b := 4) (by decide)
    obtain ⟨d, hd⟩ : ∃ d : Nat, 1 + dr nums k1 % 4 = (d : Int) := ⟨(1 + dr nums k1 % 4).toNat, by omega⟩
    have d2 : 2 ^ (d + 1) ≤ 2 ^ 5 := Nat.pow_le_pow_right (by decide) (by omega)
    have d4 : 4 ^ d ≤ 4 ^ 4 := Nat.pow_le_pow_right (by decide) (by omega)
    have d0 := drc (c := []) (k := k1) h (by omega) (k1 + 1) rfl
    obtain ⟨q, k4, e2, g1, g2, g3, g4, g5, g6⟩ := any_pay_ h d 12 (k1 + 1) (by omega) (by omega) (by omega)
    have e2' := callC_DS (c := []) rfl e2
    refine ⟨q, k4, ⟨g1, by omega, by omega, by omega⟩, by omega, by omega, gSeq_of sA ?_⟩
    simp [c, d0, hd, e2', -callC_]
  · obtain ⟨g1, g2, g3, g4⟩ := f1
    have m1 : m ≤ 1 := by omega
    have m3 : 2 ^ m ≤ 2 ^ 1 := Nat.pow_le_pow_right (by decide) m1
    have m4 : 17 ^ m ≤ 17 ^ 1 := Nat.pow_le_pow_right (by decide) m1
    refine ⟨p, k1, ⟨g1, by omega, by omega, by omega⟩, by omega, by omega, gSeq_of sA ?_⟩
    simp [c]
theorem tc_ {nums : List Int} (h : InR nums) (k : Nat) (hk : k < 1000000) (sc x2 x3 x4 x5 x6 x7 x8 x9 x10 x11 x12 : S) : ∃ ss k', Two ss ∧ (∀ z ∈ ss, IsM z) ∧ k ≤ k' ∧ k' ≤ k + 3 ∧ TC [sc, .cel 0, x2, x3, x4, x5, x6, x7, x8, x9, x10, x11, x12] (DS nums k) = .nx [sc, .cel 0, x2, x3, .d (.list (ss.map .int)), x5, x6, x7, x8, x9, x10, x11, x12] (DS nums k') := by
  have d0 := drc (c := []) (k := k) h (by omega) (k + 1) rfl
  have d1 := drc (c := []) (k := k + 1) h (by omega) (k + 2) rfl
  have d2 := drc (c := []) (k := k + 2) h (by omega) (k + 3) rfl
  have q0 := Int.emod_nonneg (dr nums k) (b := 2) (by decide)
  have q1 := Int.emod_lt_of_pos (dr nums k) (b := 2) (by decide)
  obtain ⟨_, ⟨a, rfl, a1⟩, ha⟩ := atI_mod (xs := [.int 0, .int 3, .int 100, .int 1000000000000]) (P := fun x => ∃ i, x = .int i ∧ IsM i) (dr nums (k + 1)) 4 rfl (by decide) (by simp [IsM])
  obtain ⟨_, ⟨b, rfl, b1⟩, hb⟩ := atI_mod (xs := [.int 0, .int 3, .int 100, .int 1000000000000]) (P := fun x => ∃ i, x = .int i ∧ IsM i) (dr nums (k + 2)) 4 rfl (by decide) (by simp [IsM])
  have z1 : 1 < sizeLine := size_lt (by omega)
  have it : ∀ (n : Nat), 1 + dr nums k % 2 = (n : Int) → n ≤ 2 → iRng (eBin addD (eC (.int (1))) (eBin modD (eFrz (eCallC F__law_draw (aCons (eV 1) aNil))) (eC (.int (2))))) [sc, .cel 0, x2, x3, x4, x5, x6, x7, x8, x9, x10, x11, x12] (DS nums k) = .ok (rngD 0 n) (DS nums (k + 1)) := fun n hn hl => iRngN (by simp [d0, hn, -callC_]) (by omega)
  rcases (by omega : dr nums k % 2 = 0 ∨ dr nums k % 2 = 1) with c | c
  · refine ⟨[a], k + 2, .inl ⟨a, rfl⟩, by simpa using a1, by omega, by omega, sSet_of (frz_c (elc_c (it 1 (by omega) (by omega)) ?_)) rfl⟩
    rw [rngD_up]
    simp [upN, lcL_cons, d1, ha, -callC_]
  · refine ⟨[a, b], k + 3, .inr ⟨a, b, rfl⟩, by simp [a1, b1], by omega, by omega, sSet_of (frz_c (elc_c (it 2 (by omega) (by omega)) ?_)) rfl⟩
    rw [rngD_up]
    simp [upN, lcL_cons, d1, d2, ha, hb, z1, -callC_]
theorem td_ {p : Py} (f : Fit p) {ss : List Int} (ts : Two ss) (hs : ∀ z ∈ ss, IsM z) (cs : Store) (sc x1 x2 x5 x6 x7 x8 x9 x10 x11 x12 : S) : TD [sc, x1, x2, .d (enc p), .d (.list (ss.map .int)), x5, x6, x7, x8, x9, x10, x11, x12] cs = .nx [sc, x1, x2, .d (enc p), .d (.list (ss.map .int)), .d (.list (ss.map (rowOf p))), x6, x7, x8, x9, x10, x11, x12] cs := by
  have lc := lcMap (cs := cs) (tg := gtN 11) (t := tYesM) (f := eFrz (eCall (F__law_pieces 30) (aCons (eV 3) (aCons (eV 11) aNil)))) (ρ := [sc, x1, x2, .d (enc p), .d (.list (ss.map .int)), x5, x6, x7, x8, x9, x10, .no, x12]) PyData.int (fun _ => true) (rowOf p) ss [] (fun x hx => ⟨_, rfl, rfl, fun _ => frz_d (eCall_d (ss := [.d (enc p), .d (.int x)]) (by simp) rfl (row_ f (hs x hx)).1)⟩) (by rcases ts with ⟨x, rfl⟩ | ⟨x, y, rfl⟩ <;> simp)
  rw [List.filter_eq_self.2 (fun _ _ => rfl), List.nil_append] at lc
  exact sSet_of (frz_c (elc_c (iAny_of (by generalize ss.map PyData.int = L; simp)) lc)) rfl
def dueOf (p : Py) (ss : List Int) : Bool := !(ss.any fun x => nonD (rowOf p x)) && ss.all fun x => risOf (rowOf p x)
theorem due_iff {p : Py} (f : Fit p) {ss : List Int} (hs : ∀ z ∈ ss, IsM z) : dueOf p ss = true ↔ ∀ z ∈ ss, fine p z := by
  unfold dueOf fine
  rw [Bool.and_eq_true, Bool.not_eq_true', List.any_eq_false, List.all_eq_true]
  have a : ∀ x ∈ ss, (¬ nonD (rowOf p x) = true) ↔ okb x p := fun x hx => by
    rcases (row_ f (hs x hx)).2 with ⟨k, rs, e, _⟩ | ⟨k, e⟩
    · rw [e]; simp [nonD, k]
    · rw [e]; simp [nonD, k]
  constructor
  · rintro ⟨h1, h2⟩ z hz
    have o := (a z hz).1 (h1 z hz)
    exact ⟨o, (rise_ f (hs z hz) o).2.1 (h2 z hz)⟩
  · intro h
    exact ⟨fun x hx => (a x hx).2 (h x hx).1, fun x hx => (rise_ f (hs x hx) (h x hx).1).2.2 (h x hx).2⟩
theorem eAnd_no {f g : List S → M S} {ρ : List S} {cs cs' : Store} (h : f ρ cs = .ok (.d (.bool false)) cs') : eAndM f g ρ cs = .ok (.d (.bool false)) cs' := by
  rw [eAndM_, bnd_ok h]; rfl
theorem eAnd_yes {f g : List S → M S} {ρ : List S} {cs cs' : Store} {r : Res S} (h : f ρ cs = .ok (.d (.bool true)) cs') (h2 : g ρ cs' = r) : eAndM f g ρ cs = r := by
  rw [eAndM_, bnd_ok h]; exact h2
theorem te_ {p : Py} (f : Fit p) {ss : List Int} (ts : Two ss) (hs : ∀ z ∈ ss, IsM z) (cs : Store) (sc x1 x2 x3 x4 x6 x7 x8 x9 x10 x11 x12 : S) : TE [sc, x1, x2, x3, x4, .d (.list (ss.map (rowOf p))), x6, x7, x8, x9, x10, x11, x12] cs = .nx [sc, x1, x2, x3, x4, .d (.list (ss.map (rowOf p))), .d (.bool (dueOf p ss)), x7, x8, x9, x10, x11, x12] cs := by
  have n := none_in f hs
  have n1 : eCmp ninD (eC .none) (eV 5) [sc, x1, x2, x3, x4, .d (.list (ss.map (rowOf p))), x6, x7, x8, x9, x10, x11, x12] cs = .ok (.d (.bool (!(ss.any fun x => nonD (rowOf p x))))) cs := by
    generalize ss.map (rowOf p) = L at *
    simp [n, -ninD_of]
  cases c : ss.any fun x => nonD (rowOf p x) with
  | true =>
    rw [c] at n1
    have d : dueOf p ss = false := by unfold dueOf; rw [c]; rfl
    rw [d]
    exact sSet_of (eAnd_no n1) rfl
  | false =>
    rw [c] at n1
    have d : dueOf p ss = ss.all fun x => risOf (rowOf p x) := by unfold dueOf; rw [c]; rfl
    have ok : ∀ x ∈ ss, okb x p := fun x hx => by
      have := List.any_eq_false.1 c x hx
      rcases (row_ f (hs x hx)).2 with ⟨k, rs, e, _⟩ | ⟨k, e⟩
      · exact k
      · rw [e] at this; exact absurd rfl this
    have lc := lcMap (cs := cs) (tg := gtN 12) (t := tYesM) (f := eFrz (eCall F__law_rises (aCons (eV 12) aNil))) (ρ := [sc, x1, x2, x3, x4, .d (.list (ss.map (rowOf p))), x6, x7, x8, x9, x10, x11, .no]) (rowOf p) (fun _ => true) (fun x => .bool (risOf (rowOf p x))) ss [] (fun x hx => ⟨_, rfl, rfl, fun _ => frz_d (eCall_d (ss := [.d (rowOf p x)]) (by generalize rowOf p x = w; simp) rfl (rise_ f (hs x hx) (ok x hx)).1)⟩) (by rcases ts with ⟨x, rfl⟩ | ⟨x, y, rfl⟩ <;> simp)
    rw [List.filter_eq_self.2 (fun _ _ => rfl), List.nil_append] at lc
    have fi := false_in (ss.map fun x => risOf (rowOf p x))
    rw [List.map_map] at fi
    have q1 := frz_c (elc_c (vs := [12]) (ρ := [sc, x1, x2, x3, x4, .d (.list (ss.map (rowOf p))), x6, x7, x8, x9, x10, x11, x12]) (iAny_of (f := eV 5) (by generalize ss.map (rowOf p) = L; simp)) lc)
    have q2 : (ss.map fun x => risOf (rowOf p x)).all id = dueOf p ss := by rw [d, List.all_map]; rfl
    rw [q2] at fi
    refine sSet_of (eAnd_yes n1 (r := .ok (.d (.bool (dueOf p ss))) cs) ?_) rfl
    rw [eCmp_, bnd_, op2_]
    have e1 : eC (.bool false) [sc, x1, x2, x3, x4, .d (.list (ss.map (rowOf p))), x6, x7, x8, x9, x10, x11, x12] cs = .ok (.d (.bool false)) cs := rfl
    rw [bnd_ok e1, bnd_ok q1]
    simp only [bnd_, vwM_d]
    have fi' : ninD (.bool false) (.list (ss.map fun x => PyData.bool (risOf (rowOf p x)))) = some (dueOf p ss) := fi
    rw [fi']
    rfl
theorem tf_ {nums : List Int} (h : InR nums) (k : Nat) (hk : k < 1000000) (p : Py) (sc x2 x4 x5 x6 x7 x8 x9 x10 x11 x12 : S) : ∃ two, TF [sc, .cel 0, x2, .d (enc p), x4, x5, x6, x7, x8, x9, x10, x11, x12] (DS nums k) = .nx [sc, .cel 0, x2, .d (enc p), x4, x5, x6, .d (.tuple (termsD two p)), x8, x9, x10, x11, x12] (DS nums (k + 1)) := by
  have d0 := drc (c := []) (k := k) h (by omega) (k + 1) rfl
  have q0 := Int.emod_nonneg (dr nums k) (b := 2) (by decide)
  have q1 := Int.emod_lt_of_pos (dr nums k) (b := 2) (by decide)
  rcases (by omega : dr nums k % 2 = 0 ∨ dr nums k % 2 = 1) with c | c
  · exact ⟨true, by simp [d0, c, -callC_, termsD, T0, T1, enc]; rfl⟩
  · exact ⟨false, by simp [d0, c, -callC_, termsD, T0, T1, enc]⟩
theorem tg_ {ss : List Int} (ts : Two ss) (tt : List D) (cs : Store) (sc x1 x2 x3 x5 x6 x8 x9 x10 x11 x12 : S) : TG [sc, x1, x2, x3, .d (.list (ss.map .int)), x5, x6, .d (.tuple tt), x8, x9, x10, x11, x12] cs = .nx [sc, x1, x2, x3, .d (.list (ss.map .int)), x5, x6, .d (.tuple tt), .d (wordsD tt ss), x9, x10, x11, x12] cs := by
  have z1 : 1 < sizeLine := size_lt (by omega)
  rcases ts with ⟨x, rfl⟩ | ⟨x, y, rfl⟩
  · have it : iRng (eCd lenG (aCons (eV 4) aNil)) [sc, x1, x2, x3, .d (.list [.int x]), x5, x6, .d (.tuple tt), x8, x9, x10, x11, x12] cs = .ok [.int 0] cs := (iRngN (n := 1) (cs' := cs) (by simp) (by omega)).trans (by rw [rngD_up]; rfl)
    simp only [List.map_cons, List.map_nil]
    have q := frz_c (elc_c (tg := gtN 10) (t := tYesM) (f := eTup (aCons (eBin ixD (eFrz (eLst (aCons (eC (.str "a")) (aCons (eC (.str "b")) aNil)))) (eV 10)) (aCons (eBin ixD (eV 4) (eV 10)) aNil))) (vs := [10]) (r := .ok (.own (.lst (sumsD [x]))) cs) it (by simp [lcL_cons, sumsD]))
    simp [-iRng_, q, wordsD, sumsD, -eLc_, -eFrz_]
  · have it : iRng (eCd lenG (aCons (eV 4) aNil)) [sc, x1, x2, x3, .d (.list [.int x, .int y]), x5, x6, .d (.tuple tt), x8, x9, x10, x11, x12] cs = .ok [.int 0, .int 1] cs := (iRngN (n := 2) (cs' := cs) (by simp) (by omega)).trans (by rw [rngD_up]; rfl)
    simp only [List.map_cons, List.map_nil]
    have q := frz_c (elc_c (tg := gtN 10) (t := tYesM) (f := eTup (aCons (eBin ixD (eFrz (eLst (aCons (eC (.str "a")) (aCons (eC (.str "b")) aNil)))) (eV 10)) (aCons (eBin ixD (eV 4) (eV 10)) aNil))) (vs := [10]) (r := .ok (.own (.lst (sumsD [x, y]))) cs) it (by simp [lcL_cons, sumsD, z1]))
    simp [-iRng_, q, wordsD, sumsD, -eLc_, -eFrz_]
theorem th_ (K : PySem.W.Frag) {p : Py} (f : Fit p) {ss : List Int} (ts : Two ss) (hs : ∀ z ∈ ss, IsM z) (two : Bool) (cs : Store) (sc x1 x2 x3 x4 x5 x7 x9 x10 x11 x12 : S) : TH K [sc, x1, x2, x3, x4, x5, .d (.bool (dueOf p ss)), x7, .d (wordsD (termsD two p) ss), x9, x10, x11, x12] cs = .nx [sc, x1, x2, x3, x4, x5, .d (.bool (dueOf p ss)), x7, .d (wordsD (termsD two p) ss), x9, x10, x11, x12] cs := by
  have fd := f.d
  have fc := f.c
  have t : F__law_told K [.d (wordsD (termsD two p) ss)] [] = .ok (.d (.bool (dueOf p ss))) [] := by
    rcases words_ K ts hs f.g (by omega) (by omega) f.z two with ⟨a, e⟩ | ⟨a, e⟩
    · rw [(due_iff f hs).2 a]; exact told_yes K e
    · have : dueOf p ss = false := by
        cases c : dueOf p ss with
        | false => rfl
        | true => exact absurd ((due_iff f hs).1 c) a
      rw [this]; exact told_no K e
  have e1 := frz_d (eCall_d (F := F__law_told K) (g := aCons (eV 8) aNil) (ρ := [sc, x1, x2, x3, x4, x5, .d (.bool (dueOf p ss)), x7, .d (wordsD (termsD two p) ss), x9, x10, x11, x12]) (ss := [.d (wordsD (termsD two p) ss)]) (cs := cs) (by simp) rfl t)
  have e2 := frz_d (eCall_d (F := F__law_equal 12) (g := aCons (eFrz (eCall (F__law_told K) (aCons (eV 8) aNil))) (aCons (eV 6) aNil)) (ρ := [sc, x1, x2, x3, x4, x5, .d (.bool (dueOf p ss)), x7, .d (wordsD (termsD two p) ss), x9, x10, x11, x12]) (cs := cs) (by rw [aCons_, bnd_ok e1]; simp) rfl (equal_bool 11 (dueOf p ss)))
  refine sIf_no (cs' := cs) ?_ rfl
  simp [-eFrz_, e2]
abbrev sizeB (K : PySem.W.Frag) : G := (sIf (tAndM (tNotM (op1 isnD (eBin ixD (eV 5) (eC (.int (0)))))) (tNotM (tT (eFrz (eCall (F__law_equal 12) (aCons (eFrz (eCall (F_pay K) (aCons (eV 3) (aCons (eBin ixD (eV 4) (eC (.int (0)))) (aCons (eV 9) aNil))))) (aCons (eBin ixD (eFrz (eCall F__law_at (aCons (eBin ixD (eV 5) (eC (.int (0)))) (aCons (eV 9) aNil)))) (eC (.int (0)))) aNil))))))) (sRet (eRv (eC (.bool false)))) gNil)
theorem size_step (K : PySem.W.Frag) {p : Py} (f : Fit p) {x : Int} (hx : IsM x) {s : Int} (hs : IsM s) (cs : Store) (L Lr : List D) (sc x1 x2 x6 x7 x8 x10 x11 x12 : S) : sizeB K [sc, x1, x2, .d (enc p), .d (.list (.int x :: L)), .d (.list (rowOf p x :: Lr)), x6, x7, x8, .d (.int s), x10, x11, x12] cs = .nx [sc, x1, x2, .d (enc p), .d (.list (.int x :: L)), .d (.list (rowOf p x :: Lr)), x6, x7, x8, .d (.int s), x10, x11, x12] cs := by
  have fd := f.d
  have fc := f.c
  rcases (row_ f hx).2 with ⟨k, rs, e, h, hl⟩ | ⟨k, e⟩
  · obtain ⟨r, _, _, _, _, la⟩ := law_at_ h (Nat.le_trans (Nat.pow_le_pow_right (by decide) fd) (by decide)) (by omega) hs.1 hs.2
    rw [e]
    generalize rs.map eL = RL at *
    have pa := pay_ K hx hs p f.g f.z (by omega)
    generalize hρ : ([sc, x1, x2, .d (enc p), .d (.list (.int x :: L)), .d (.list (.list RL :: Lr)), x6, x7, x8, .d (.int s), x10, x11, x12] : List S) = ρ
    have e1 := frz_d (eCall_d (F := F_pay K) (g := aCons (eV 3) (aCons (eBin ixD (eV 4) (eC (.int (0)))) (aCons (eV 9) aNil))) (ρ := ρ) (ss := [.d (enc p), .d (.int x), .d (.int s)]) (cs := cs) (by subst hρ; simp) rfl pa)
    have e2 := frz_d (eCall_d (F := F__law_at) (g := aCons (eBin ixD (eV 5) (eC (.int (0)))) (aCons (eV 9) aNil)) (ρ := ρ) (ss := [.d (.list RL), .d (.int s)]) (cs := cs) (by subst hρ; simp) rfl la)
    have e3 := frz_d (eCall_d (F := F__law_equal 12) (g := aCons (eFrz (eCall (F_pay K) (aCons (eV 3) (aCons (eBin ixD (eV 4) (eC (.int (0)))) (aCons (eV 9) aNil))))) (aCons (eBin ixD (eFrz (eCall F__law_at (aCons (eBin ixD (eV 5) (eC (.int (0)))) (aCons (eV 9) aNil)))) (eC (.int (0)))) aNil)) (ρ := ρ) (cs := cs) (by rw [aCons_, bnd_ok e1]; simp [-eFrz_, e2]) rfl (equal_int 11 (val x s p)))
    have e4 : (tNotM (op1 isnD (eBin ixD (eV 5) (eC (.int (0)))))) ρ cs = .ok true cs := by subst hρ; simp
    refine sIf_no (cs' := cs) ?_ rfl
    rw [tAndM_, bnd_ok e4]
    simp [-eFrz_, e3]
  · rw [e]
    refine sIf_no (cs' := cs) ?_ rfl
    simp
theorem size_loop (K : PySem.W.Frag) {p : Py} (f : Fit p) {x : Int} (hx : IsM x) (cs : Store) (L Lr : List D) (sc x1 x2 x6 x7 x8 x10 x11 x12 : S) : ∀ (ts : List Int) (s9 : S), (∀ s ∈ ts, IsM s) → ∃ t9, gFor (gtN 9) (sizeB K) (ts.map .int) [sc, x1, x2, .d (enc p), .d (.list (.int x :: L)), .d (.list (rowOf p x :: Lr)), x6, x7, x8, s9, x10, x11, x12] cs = .nx [sc, x1, x2, .d (enc p), .d (.list (.int x :: L)), .d (.list (rowOf p x :: Lr)), x6, x7, x8, t9, x10, x11, x12] cs
  | [], s9, _ => ⟨s9, rfl⟩
  | t :: ts, s9, h => by
    obtain ⟨t9, e⟩ := size_loop K f hx cs L Lr sc x1 x2 x6 x7 x8 x10 x11 x12 ts (.d (.int t)) (fun s hs => h s (by simp [hs]))
    refine ⟨t9, ?_⟩
    rw [List.map_cons, gFor_cons]
    simp only [gtN_, List.set_cons_succ, List.set_cons_zero]
    rw [size_step K f hx (h t (by simp))]
    exact e
theorem ti_ (K : PySem.W.Frag) {nums : List Int} (h : InR nums) (k : Nat) (hk : k < 1000000) {p : Py} (f : Fit p) {ss : List Int} (ts : Two ss) (hs : ∀ z ∈ ss, IsM z) (sc x2 x6 x7 x8 x9 x10 x11 x12 : S) : ∃ t9, TI K [sc, .cel 0, x2, .d (enc p), .d (.list (ss.map .int)), .d (.list (ss.map (rowOf p))), x6, x7, x8, x9, x10, x11, x12] (DS nums k) = .nx [sc, .cel 0, x2, .d (enc p), .d (.list (ss.map .int)), .d (.list (ss.map (rowOf p))), x6, x7, x8, t9, x10, x11, x12] (DS nums (k + 2)) := by
  have d0 := drc (c := []) (k := k) h (by omega) (k + 1) rfl
  have d1 := drc (c := []) (k := k + 1) h (by omega) (k + 2) rfl
  have q0 := Int.emod_nonneg (dr nums k) (b := 120) (by decide)
  have q1 := Int.emod_lt_of_pos (dr nums k) (b := 120) (by decide)
  have l1 := dr_lo (k := k + 1) h
  have l2 := dr_hi (k := k + 1) h
  obtain ⟨x, t, e⟩ : ∃ x t, ss = x :: t := by rcases ts with ⟨x, rfl⟩ | ⟨x, y, rfl⟩ <;> exact ⟨_, _, rfl⟩
  subst e
  have it : ∀ ρ : List S, ρ[1]? = some (.cel 0) → iAnyM (eFrz (eLst (aCons (eC (.int (0))) (aCons (eC (.int (1))) (aCons (eBin modD (eFrz (eCallC F__law_draw (aCons (eV 1) aNil))) (eC (.int (120)))) (aCons (eFrz (eCallC F__law_draw (aCons (eV 1) aNil))) (aCons (eBin powD (eC (.int (10))) (eC (.int (12)))) aNil))))))) ρ (DS nums k) = .ok ([0, 1, dr nums k % 120, dr nums (k + 1), 1000000000000].map .int) (DS nums (k + 2)) := fun ρ hρ => by
    simp [hρ, d0, d1, pow12, -powD_int, -callC_]
  obtain ⟨t9, e⟩ := size_loop K f (hs x (by simp)) (DS nums (k + 2)) (t.map .int) (t.map (rowOf p)) sc (.cel 0) x2 x6 x7 x8 x10 x11 x12 [0, 1, dr nums k % 120, dr nums (k + 1), 1000000000000] x9 (by
    intro s hs
    unfold IsM
    simp at hs
    omega)
  exact ⟨t9, sFor_of (it _ rfl) e⟩
noncomputable abbrev turnB (K : PySem.W.Frag) : G := (gSeq (sSet 3 (eFrz (eCallC (F__law_soft 12) (aCons (eV 1) (aCons (eBin modD (eV 2) (eC (.int (3)))) aNil)))))
      (gSeq (sIf (op2 eqD (eBin modD (eV 2) (eC (.int (3)))) (eC (.int (2)))) (sSet 3 (eFrz (eCallC (F__law_any_pay 12) (aCons (eV 1) (aCons (eBin addD (eC (.int (1))) (eBin modD (eFrz (eCallC F__law_draw (aCons (eV 1) aNil))) (eC (.int (4))))) aNil))))) gNil)
      (gSeq (sSet 4 (eFrz (eLc (iRng (eBin addD (eC (.int (1))) (eBin modD (eFrz (eCallC F__law_draw (aCons (eV 1) aNil))) (eC (.int (2)))))) (gtN 10) tYesM (eBin ixD (eFrz (eLst (aCons (eC (.int (0))) (aCons (eC (.int (3))) (aCons (eC (.int (100))) (aCons (eBin powD (eC (.int (10))) (eC (.int (12)))) aNil)))))) (eBin modD (eFrz (eCallC F__law_draw (aCons (eV 1) aNil))) (eC (.int (4))))) [10])))
      (gSeq (sSet 5 (eFrz (eLc (iAnyM (eV 4)) (gtN 11) tYesM (eFrz (eCall (F__law_pieces 30) (aCons (eV 3) (aCons (eV 11) aNil)))) [11])))
      (gSeq (sSet 6 (eAndM (eCmp ninD (eC .none) (eV 5)) (eCmp ninD (eC (.bool false)) (eFrz (eLc (iAnyM (eV 5)) (gtN 12) tYesM (eFrz (eCall F__law_rises (aCons (eV 12) aNil))) [12])))))
      (gSeq (sSet 7 (eSl (eTup (aCons (eTup (aCons (eTup (aCons (eC (.str "always")) aNil)) (aCons (eC (.str "loss")) aNil))) (aCons (eTup (aCons (eTup (aCons (eC (.str "peril")) (aCons (eC (.str "fire")) aNil))) (aCons (eV 3) aNil))) aNil))) (oSome (eBin modD (eFrz (eCallC F__law_draw (aCons (eV 1) aNil))) (eC (.int (2))))) oNone))
      (gSeq (sSet 8 (eTup (aCons (eC (.str "words")) (aCons (eV 7) (aCons (eCd tupleG (aCons (eFrz (eLc (iRng (eCd lenG (aCons (eV 4) aNil))) (gtN 10) tYesM (eTup (aCons (eBin ixD (eFrz (eLst (aCons (eC (.str "a")) (aCons (eC (.str "b")) aNil)))) (eV 10)) (aCons (eBin ixD (eV 4) (eV 10)) aNil))) [10])) aNil)) (aCons (eTup aNil) (aCons (eTup aNil) (aCons (eTup aNil) (aCons (eC (.int (0))) (aCons (eC (.int (0))) aNil))))))))))
      (gSeq (sIf (tNotM (tT (eFrz (eCall (F__law_equal 12) (aCons (eFrz (eCall (F__law_told K) (aCons (eV 8) aNil))) (aCons (eV 6) aNil)))))) (sRet (eRv (eC (.bool false)))) gNil)
      (sFor (gtN 9) (iAnyM (eFrz (eLst (aCons (eC (.int (0))) (aCons (eC (.int (1))) (aCons (eBin modD (eFrz (eCallC F__law_draw (aCons (eV 1) aNil))) (eC (.int (120)))) (aCons (eFrz (eCallC F__law_draw (aCons (eV 1) aNil))) (aCons (eBin powD (eC (.int (10))) (eC (.int (12)))) aNil)))))))) (sIf (tAndM (tNotM (op1 isnD (eBin ixD (eV 5) (eC (.int (0)))))) (tNotM (tT (eFrz (eCall (F__law_equal 12) (aCons (eFrz (eCall (F_pay K) (aCons (eV 3) (aCons (eBin ixD (eV 4) (eC (.int (0)))) (aCons (eV 9) aNil))))) (aCons (eBin ixD (eFrz (eCall F__law_at (aCons (eBin ixD (eV 5) (eC (.int (0)))) (aCons (eV 9) aNil)))) (eC (.int (0)))) aNil))))))) (sRet (eRv (eC (.bool false)))) gNil))))))))))
theorem turn_step (K : PySem.W.Frag) {nums : List Int} (h : InR nums) (k : Nat) (hk : k < 900000) (j : Int) (j0 : 0 ≤ j) (sc x3 x4 x5 x6 x7 x8 x9 x10 x11 x12 : S) : ∃ k' t3 t4 t5 t6 t7 t8 t9, k' ≤ k + 400 ∧ turnB K [sc, .cel 0, .d (.int j), x3, x4, x5, x6, x7, x8, x9, x10, x11, x12] (DS nums k) = .nx [sc, .cel 0, .d (.int j), t3, t4, t5, t6, t7, t8, t9, x10, x11, x12] (DS nums k') := by
  obtain ⟨p, k1, f, a1, a2, e1⟩ := ta_ h k (by omega) j j0 sc x3 x4 x5 x6 x7 x8 x9 x10 x11 x12
  obtain ⟨ss, k2, ts, hs, b1, b2, e2⟩ := tc_ h k1 (by omega) sc (.d (.int j)) (.d (enc p)) x4 x5 x6 x7 x8 x9 x10 x11 x12
  have e3 := td_ f ts hs (DS nums k2) sc (.cel 0) (.d (.int j)) x5 x6 x7 x8 x9 x10 x11 x12
  have e4 := te_ f ts hs (DS nums k2) sc (.cel 0) (.d (.int j)) (.d (enc p)) (.d (.list (ss.map .int))) x6 x7 x8 x9 x10 x11 x12
  obtain ⟨two, e5⟩ := tf_ h k2 (by omega) p sc (.d (.int j)) (.d (.list (ss.map .int))) (.d (.list (ss.map (rowOf p)))) (.d (.bool (dueOf p ss))) x7 x8 x9 x10 x11 x12
  have e6 := tg_ ts (termsD two p) (DS nums (k2 + 1)) sc (.cel 0) (.d (.int j)) (.d (enc p)) (.d (.list (ss.map (rowOf p)))) (.d (.bool (dueOf p ss))) x8 x9 x10 x11 x12
  have e7 := th_ K f ts hs two (DS nums (k2 + 1)) sc (.cel 0) (.d (.int j)) (.d (enc p)) (.d (.list (ss.map .int))) (.d (.list (ss.map (rowOf p)))) (.d (.tuple (termsD two p))) x9 x10 x11 x12
  obtain ⟨t9, e8⟩ := ti_ K h (k2 + 1) (by omega) f ts hs sc (.d (.int j)) (.d (.bool (dueOf p ss))) (.d (.tuple (termsD two p))) (.d (wordsD (termsD two p) ss)) x9 x10 x11 x12
  rw [gSeq_] at e1
  refine ⟨k2 + 1 + 2, .d (enc p), .d (.list (ss.map .int)), .d (.list (ss.map (rowOf p))), .d (.bool (dueOf p ss)), .d (.tuple (termsD two p)), .d (wordsD (termsD two p) ss), t9, by omega, ?_⟩
  have ab : ∀ g : G, gSeq TA (gSeq TB g) [sc, .cel 0, .d (.int j), x3, x4, x5, x6, x7, x8, x9, x10, x11, x12] (DS nums k) = g [sc, .cel 0, .d (.int j), .d (enc p), x4, x5, x6, x7, x8, x9, x10, x11, x12] (DS nums k1) := fun g => by
    rw [gSeq_]
    cases hA : TA [sc, .cel 0, .d (.int j), x3, x4, x5, x6, x7, x8, x9, x10, x11, x12] (DS nums k) with
    | nx ρ' cs' => rw [hA] at e1; exact gSeq_of e1 rfl
    | _ => rw [hA] at e1; cases e1
  exact (ab _).trans (gSeq_of e2 (gSeq_of e3 (gSeq_of e4 (gSeq_of e5 (gSeq_of e6 (gSeq_of e7 e8))))))
theorem turn_loop (K : PySem.W.Frag) {nums : List Int} (h : InR nums) (sc x10 x11 x12 : S) : ∀ (js : List Int) (k : Nat) (x2 x3 x4 x5 x6 x7 x8 x9 : S), (∀ j ∈ js, 0 ≤ j) → k + 400 * js.length < 900000 → ∃ k' t2 t3 t4 t5 t6 t7 t8 t9, gFor (gtN 2) (turnB K) (js.map .int) [sc, .cel 0, x2, x3, x4, x5, x6, x7, x8, x9, x10, x11, x12] (DS nums k) = .nx [sc, .cel 0, t2, t3, t4, t5, t6, t7, t8, t9, x10, x11, x12] (DS nums k')
  | [], k, x2, x3, x4, x5, x6, x7, x8, x9, _, _ => ⟨_, _, _, _, _, _, _, _, _, rfl⟩
  | j :: js, k, x2, x3, x4, x5, x6, x7, x8, x9, hj, hk => by
    simp at hk
    obtain ⟨k1, t3, t4, t5, t6, t7, t8, t9, a, e⟩ := turn_step K h k (by omega) j (hj j (by simp)) sc x3 x4 x5 x6 x7 x8 x9 x10 x11 x12
    obtain ⟨k2, u2, u3, u4, u5, u6, u7, u8, u9, f⟩ := turn_loop K h sc x10 x11 x12 js k1 (.d (.int j)) t3 t4 t5 t6 t7 t8 t9 (fun y hy => hj y (by simp [hy])) (by omega)
    refine ⟨k2, u2, u3, u4, u5, u6, u7, u8, u9, ?_⟩
    rw [List.map_cons, gFor_cons]
    simp only [gtN_, List.set_cons_succ, List.set_cons_zero]
    rw [e]
    exact f
theorem law_true (K : PySem.W.Frag) (ns : List Int) (h : ns.length ≤ 63) : ∃ cs', F_law K [.d (.list (ns.map .int))] [] = .ok (.d (.bool true)) cs' := by
  obtain ⟨nums, e, h1, h2⟩ := numbers_ ns (by omega)
  generalize hsc : S.d (.list (ns.map .int)) = sc at *
  obtain ⟨k', t2, t3, t4, t5, t6, t7, t8, t9, f⟩ := turn_loop K h1 sc .no .no .no [0, 1, 2, 3, 4, 5] 0 .no .no .no .no .no .no .no .no (by simp) (by simp)
  have it : iRng (eC (.int (6))) [sc, .cel 0, .no, .no, .no, .no, .no, .no, .no, .no, .no, .no, .no] (DS nums 0) = .ok ([0, 1, 2, 3, 4, 5].map .int) (DS nums 0) := (iRngN (n := 6) (cs' := DS nums 0) rfl (by omega)).trans (by rw [rngD_up]; rfl)
  have s1 : sNew 1 (eLst (aCons (eFrz (eCall F__law_numbers (aCons (eV 0) aNil))) (aCons (eC (.int (0))) aNil))) [sc, .no, .no, .no, .no, .no, .no, .no, .no, .no, .no, .no, .no] [] = .nx [sc, .cel 0, .no, .no, .no, .no, .no, .no, .no, .no, .no, .no, .no] (DS nums 0) := by
    subst hsc
    have q := frz_c (eCall_own (F := F__law_numbers) (g := aCons (eV 0) aNil) (ρ := [.d (.list (ns.map .int)), .no, .no, .no, .no, .no, .no, .no, .no, .no, .no, .no, .no]) (ss := [.d (.list (ns.map .int))]) (cs := []) (by generalize ns.map PyData.int = L; simp) rfl e)
    generalize ns.map PyData.int = L at *
    simp [-eFrz_, q, DSc]
  have s3 : ∀ ρ cs, sRet (eRv (eC (.bool true))) ρ cs = .rt (.d (.bool true)) cs := fun ρ cs => by simp
  refine ⟨(DS nums k').take 0, ?_⟩
  unfold F_law
  rw [runG_]
  exact (congrArg (fin 0) (gSeq_of s1 (gSeq_of (sFor_of it f) (s3 _ _)))).trans rfl
end Law

set_option Elab.async false
set_option linter.all false
set_option maxRecDepth 100000
set_option maxHeartbeats 4000000
namespace Law
open PySem L2 Dn
/-! the text by places -/
def top (i : Nat) : Stmt := PySem.Challenge.pw_whatbefell_k09_whole_words_rise_by_nough.main.body.getD i (.Pass ⟨0, 0, 0, 0⟩)
abbrev st_is_number : Stmt := top 9
abbrev st_is_name : Stmt := top 10
abbrev st_is_day : Stmt := top 11
abbrev st_is_money : Stmt := top 12
abbrev st_is_tuple : Stmt := top 13
abbrev st_are_unlike : Stmt := top 14
abbrev st_constant : Stmt := top 16
abbrev st_itself : Stmt := top 17
abbrev st_joined : Stmt := top 18
abbrev st_cut : Stmt := top 19
abbrev st_paired : Stmt := top 20
abbrev st_added : Stmt := top 21
abbrev st_multiplied : Stmt := top 22
abbrev st_lesser : Stmt := top 23
abbrev st_greater : Stmt := top 24
abbrev st_chosen : Stmt := top 25
abbrev st_least_value : Stmt := top 26
abbrev st_greatest_value : Stmt := top 27
abbrev st_value_at : Stmt := top 28
abbrev st_is_gentle : Stmt := top 29
abbrev st_are_names : Stmt := top 31
abbrev st_conditions_in : Stmt := top 32
abbrev st_is_condition : Stmt := top 33
abbrev st_are_few : Stmt := top 34
abbrev st_pays_in : Stmt := top 35
abbrev st_is_pay : Stmt := top 36
abbrev st_line_of : Stmt := top 37
abbrev st_line_of_parts : Stmt := top 38
abbrev st_is_layer : Stmt := top 39
abbrev st_is_back : Stmt := top 40
abbrev st_are_words : Stmt := top 41
abbrev st_check_words : Stmt := top 42
abbrev st_paid_by : Stmt := top 43
abbrev st_pay : Stmt := top 44
abbrev st__law_mixed : Stmt := top 46
abbrev st__law_numbers : Stmt := top 47
abbrev st__law_draw : Stmt := top 48
abbrev st__law_equal : Stmt := top 49
abbrev st__law_all_equal : Stmt := top 50
abbrev st__law_any_pay : Stmt := top 51
abbrev st__law_at : Stmt := top 52
abbrev st__law_joined : Stmt := top 53
abbrev st__law_chosen : Stmt := top 54
abbrev st__law_ends : Stmt := top 55
abbrev st__law_pieces : Stmt := top 56
abbrev st__law_rises : Stmt := top 57
abbrev st__law_told : Stmt := top 58
abbrev st__law_soft : Stmt := top 59
abbrev st_law : Stmt := top 60
structure Tx (K : PySem.W.Frag) (mg : PySem.Str → Option Value) : Prop where
  z_abs : mg "abs" = none
  z_bool : mg "bool" = none
  z_int : mg "int" = none
  z_isinstance : mg "isinstance" = none
  z_len : mg "len" = none
  z_list : mg "list" = none
  z_max : mg "max" = none
  z_min : mg "min" = none
  z_range : mg "range" = none
  z_set : mg "set" = none
  z_sorted : mg "sorted" = none
  z_str : mg "str" = none
  z_tuple : mg "tuple" = none
  m_LETTERS : ∃ t, mg "LETTERS" = some (.str "abcdefghijklmnopqrstuvwxyz" t)
  m_FIGURES : ∃ t, mg "FIGURES" = some (.str "0123456789" t)
  m_MOST : ∃ t, mg "MOST" = some (.int (1000000000000000) t)
  m_MONEY : ∃ t, mg "MONEY" = some (.int (1000000000000) t)
  m_LAST : ∃ t, mg "LAST" = some (.int (36500) t)
  x_WhatbefellError : Exf K mg "WhatbefellError"
  x_BadWords : Exf K mg "BadWords"
  e_WhatbefellError : ExcC K (He.ga K "WhatbefellError")
  e_BadWords : ExcC K (He.ga K "BadWords")
  k_WhatbefellError_BadWords : PySem.W.kitOne K (.ref (He.ga K "WhatbefellError")) (.ref (He.ga K "BadWords")) = some false
  k_BadWords_BadWords : PySem.W.kitOne K (.ref (He.ga K "BadWords")) (.ref (He.ga K "BadWords")) = some true
  s_WhatbefellError_WhatbefellError : PySem.W.exmOne K (.ref (He.ga K "WhatbefellError")) (.ref (He.ga K "WhatbefellError")) = some true
  s_BadWords_WhatbefellError : PySem.W.exmOne K (.ref (He.ga K "BadWords")) (.ref (He.ga K "WhatbefellError")) = some true
  d_is_number : Dfn K mg "is_number" st_is_number ["value", "low", "high"]
  d_is_name : Dfn K mg "is_name" st_is_name ["value"]
  d_is_day : Dfn K mg "is_day" st_is_day ["value"]
  d_is_money : Dfn K mg "is_money" st_is_money ["value"]
  d_is_tuple : Dfn K mg "is_tuple" st_is_tuple ["value", "low", "high"]
  d_are_unlike : Dfn K mg "are_unlike" st_are_unlike ["values"]
  d_constant : Dfn K mg "constant" st_constant ["value"]
  d_itself : Dfn K mg "itself" st_itself []
  d_joined : Dfn K mg "joined" st_joined ["rows"]
  d_cut : Dfn K mg "cut" st_cut ["rows", "first", "last"]
  d_paired : Dfn K mg "paired" st_paired ["one", "two"]
  d_added : Dfn K mg "added" st_added ["one", "two", "sign"]
  d_multiplied : Dfn K mg "multiplied" st_multiplied ["rows", "number"]
  d_lesser : Dfn K mg "lesser" st_lesser ["one", "two"]
  d_greater : Dfn K mg "greater" st_greater ["one", "two"]
  d_chosen : Dfn K mg "chosen" st_chosen ["first", "last", "one", "two"]
  d_least_value : Dfn K mg "least_value" st_least_value ["rows"]
  d_greatest_value : Dfn K mg "greatest_value" st_greatest_value ["rows"]
  d_value_at : Dfn K mg "value_at" st_value_at ["rows", "x"]
  d_is_gentle : Dfn K mg "is_gentle" st_is_gentle ["rows"]
  d_are_names : Dfn K mg "are_names" st_are_names ["value"]
  d_conditions_in : Dfn K mg "conditions_in" st_conditions_in ["value"]
  d_is_condition : Dfn K mg "is_condition" st_is_condition ["value"]
  d_are_few : Dfn K mg "are_few" st_are_few ["value", "parts_in"]
  d_pays_in : Dfn K mg "pays_in" st_pays_in ["value"]
  d_is_pay : Dfn K mg "is_pay" st_is_pay ["value"]
  d_line_of : Dfn K mg "line_of" st_line_of ["expression", "insured"]
  d_line_of_parts : Dfn K mg "line_of_parts" st_line_of_parts ["expression", "insured"]
  d_is_layer : Dfn K mg "is_layer" st_is_layer ["value"]
  d_is_back : Dfn K mg "is_back" st_is_back ["value"]
  d_are_words : Dfn K mg "are_words" st_are_words ["value"]
  d_check_words : Dfn K mg "check_words" st_check_words ["value"]
  d_paid_by : Dfn K mg "paid_by" st_paid_by ["expression", "insured", "size"]
  d_pay : Dfn K mg "pay" st_pay ["expression", "insured", "size"]
  d__law_mixed : Dfn K mg "_law_mixed" st__law_mixed ["number", "k"]
  d__law_numbers : Dfn K mg "_law_numbers" st__law_numbers ["script"]
  d__law_draw : Dfn K mg "_law_draw" st__law_draw ["draws"]
  d__law_equal : Dfn K mg "_law_equal" st__law_equal ["actual", "due"]
  d__law_all_equal : Dfn K mg "_law_all_equal" st__law_all_equal ["actual", "due"]
  d__law_any_pay : Dfn K mg "_law_any_pay" st__law_any_pay ["draws", "depth"]
  d__law_at : Dfn K mg "_law_at" st__law_at ["rows", "size"]
  d__law_joined : Dfn K mg "_law_joined" st__law_joined ["word", "one", "two"]
  d__law_chosen : Dfn K mg "_law_chosen" st__law_chosen ["low", "high", "one", "two"]
  d__law_ends : Dfn K mg "_law_ends" st__law_ends ["rows"]
  d__law_pieces : Dfn K mg "_law_pieces" st__law_pieces ["expression", "insured"]
  d__law_rises : Dfn K mg "_law_rises" st__law_rises ["rows"]
  d__law_told : Dfn K mg "_law_told" st__law_told ["words"]
  d__law_soft : Dfn K mg "_law_soft" st__law_soft ["draws", "depth"]
  d_law : Dfn K mg "law" st_law ["script"]
theorem sc_is_number : FnScope ["value", "low", "high"] ["value", "low", "high"] (defScope st_is_number) := ⟨rfl, rfl, rfl, by decide +kernel, rfl, by decide +kernel, by decide +kernel⟩
theorem sc_is_name : FnScope ["value", "sign"] ["value"] (defScope st_is_name) := ⟨rfl, rfl, rfl, by decide +kernel, rfl, by decide +kernel, by decide +kernel⟩
theorem sc_is_day : FnScope ["value"] ["value"] (defScope st_is_day) := ⟨rfl, rfl, rfl, by decide +kernel, rfl, by decide +kernel, by decide +kernel⟩
theorem sc_is_money : FnScope ["value"] ["value"] (defScope st_is_money) := ⟨rfl, rfl, rfl, by decide +kernel, rfl, by decide +kernel, by decide +kernel⟩
theorem sc_is_tuple : FnScope ["value", "low", "high"] ["value", "low", "high"] (defScope st_is_tuple) := ⟨rfl, rfl, rfl, by decide +kernel, rfl, by decide +kernel, by decide +kernel⟩
theorem sc_are_unlike : FnScope ["values"] ["values"] (defScope st_are_unlike) := ⟨rfl, rfl, rfl, by decide +kernel, rfl, by decide +kernel, by decide +kernel⟩
theorem sc_constant : FnScope ["value"] ["value"] (defScope st_constant) := ⟨rfl, rfl, rfl, by decide +kernel, rfl, by decide +kernel, by decide +kernel⟩
theorem sc_itself : FnScope [] [] (defScope st_itself) := ⟨rfl, rfl, rfl, by decide +kernel, rfl, by decide +kernel, by decide +kernel⟩
theorem sc_joined : FnScope ["rows", "found", "first", "last", "slope", "start", "low", "high", "steady", "begin"] ["rows"] (defScope st_joined) := ⟨rfl, rfl, rfl, by decide +kernel, rfl, by decide +kernel, by decide +kernel⟩
theorem sc_cut : FnScope ["rows", "first", "last", "found", "low", "high", "slope", "start", "left"] ["rows", "first", "last"] (defScope st_cut) := ⟨rfl, rfl, rfl, by decide +kernel, rfl, by decide +kernel, by decide +kernel⟩
theorem sc_paired : FnScope ["one", "two", "found", "i", "j", "first", "last", "left", "right"] ["one", "two"] (defScope st_paired) := ⟨rfl, rfl, rfl, by decide +kernel, rfl, by decide +kernel, by decide +kernel⟩
theorem sc_added : FnScope ["one", "two", "sign", "found", "first", "last", "a", "b", "c", "d"] ["one", "two", "sign"] (defScope st_added) := ⟨rfl, rfl, rfl, by decide +kernel, rfl, by decide +kernel, by decide +kernel⟩
theorem sc_multiplied : FnScope ["rows", "number", "first", "last", "slope", "start"] ["rows", "number"] (defScope st_multiplied) := ⟨rfl, rfl, rfl, by decide +kernel, rfl, by decide +kernel, by decide +kernel⟩
theorem sc_lesser : FnScope ["one", "two", "found", "first", "last", "a", "b", "c", "d", "before", "behind", "place", "middle"] ["one", "two"] (defScope st_lesser) := ⟨rfl, rfl, rfl, by decide +kernel, rfl, by decide +kernel, by decide +kernel⟩
theorem sc_greater : FnScope ["one", "two"] ["one", "two"] (defScope st_greater) := ⟨rfl, rfl, rfl, by decide +kernel, rfl, by decide +kernel, by decide +kernel⟩
theorem sc_chosen : FnScope ["first", "last", "one", "two", "found"] ["first", "last", "one", "two"] (defScope st_chosen) := ⟨rfl, rfl, rfl, by decide +kernel, rfl, by decide +kernel, by decide +kernel⟩
theorem sc_least_value : FnScope ["rows", "first", "last", "slope", "start"] ["rows"] (defScope st_least_value) := ⟨rfl, rfl, rfl, by decide +kernel, rfl, by decide +kernel, by decide +kernel⟩
theorem sc_greatest_value : FnScope ["rows", "first", "last", "slope", "start"] ["rows"] (defScope st_greatest_value) := ⟨rfl, rfl, rfl, by decide +kernel, rfl, by decide +kernel, by decide +kernel⟩
theorem sc_value_at : FnScope ["rows", "x", "first", "last", "slope", "start"] ["rows", "x"] (defScope st_value_at) := ⟨rfl, rfl, rfl, by decide +kernel, rfl, by decide +kernel, by decide +kernel⟩
theorem sc_is_gentle : FnScope ["rows", "k", "first", "last", "slope", "start"] ["rows"] (defScope st_is_gentle) := ⟨rfl, rfl, rfl, by decide +kernel, rfl, by decide +kernel, by decide +kernel⟩
theorem sc_are_names : FnScope ["value", "one"] ["value"] (defScope st_are_names) := ⟨rfl, rfl, rfl, by decide +kernel, rfl, by decide +kernel, by decide +kernel⟩
theorem sc_conditions_in : FnScope ["value", "word", "rest", "right"] ["value"] (defScope st_conditions_in) := ⟨rfl, rfl, rfl, by decide +kernel, rfl, by decide +kernel, by decide +kernel⟩
theorem sc_is_condition : FnScope ["value"] ["value"] (defScope st_is_condition) := ⟨rfl, rfl, rfl, by decide +kernel, rfl, by decide +kernel, by decide +kernel⟩
theorem sc_are_few : FnScope ["value", "parts_in", "waiting", "total", "parts"] ["value", "parts_in"] (defScope st_are_few) := ⟨rfl, rfl, rfl, by decide +kernel, rfl, by decide +kernel, by decide +kernel⟩
theorem sc_pays_in : FnScope ["value", "word"] ["value"] (defScope st_pays_in) := ⟨rfl, rfl, rfl, by decide +kernel, rfl, by decide +kernel, by decide +kernel⟩
theorem sc_is_pay : FnScope ["value"] ["value"] (defScope st_is_pay) := ⟨rfl, rfl, rfl, by decide +kernel, rfl, by decide +kernel, by decide +kernel⟩
theorem sc_line_of : FnScope ["expression", "insured", "found"] ["expression", "insured"] (defScope st_line_of) := ⟨rfl, rfl, rfl, by decide +kernel, rfl, by decide +kernel, by decide +kernel⟩
theorem sc_line_of_parts : FnScope ["expression", "insured", "word", "one", "two"] ["expression", "insured"] (defScope st_line_of_parts) := ⟨rfl, rfl, rfl, by decide +kernel, rfl, by decide +kernel, by decide +kernel⟩
theorem sc_is_layer : FnScope ["value"] ["value"] (defScope st_is_layer) := ⟨rfl, rfl, rfl, by decide +kernel, rfl, by decide +kernel, by decide +kernel⟩
theorem sc_is_back : FnScope ["value"] ["value"] (defScope st_is_back) := ⟨rfl, rfl, rfl, by decide +kernel, rfl, by decide +kernel, by decide +kernel⟩
theorem sc_are_words : FnScope ["value", "terms", "sums", "pair", "insured", "line", "one"] ["value"] (defScope st_are_words) := ⟨rfl, rfl, rfl, by decide +kernel, rfl, by decide +kernel, by decide +kernel⟩
theorem sc_check_words : FnScope ["value"] ["value"] (defScope st_check_words) := ⟨rfl, rfl, rfl, by decide +kernel, rfl, by decide +kernel, by decide +kernel⟩
theorem sc_paid_by : FnScope ["expression", "insured", "size", "word", "one", "two"] ["expression", "insured", "size"] (defScope st_paid_by) := ⟨rfl, rfl, rfl, by decide +kernel, rfl, by decide +kernel, by decide +kernel⟩
theorem sc_pay : FnScope ["expression", "insured", "size"] ["expression", "insured", "size"] (defScope st_pay) := ⟨rfl, rfl, rfl, by decide +kernel, rfl, by decide +kernel, by decide +kernel⟩
theorem sc__law_mixed : FnScope ["number", "k", "step"] ["number", "k"] (defScope st__law_mixed) := ⟨rfl, rfl, rfl, by decide +kernel, rfl, by decide +kernel, by decide +kernel⟩
theorem sc__law_numbers : FnScope ["script", "numbers", "cell", "rest", "k"] ["script"] (defScope st__law_numbers) := ⟨rfl, rfl, rfl, by decide +kernel, rfl, by decide +kernel, by decide +kernel⟩
theorem sc__law_draw : FnScope ["draws", "at", "first"] ["draws"] (defScope st__law_draw) := ⟨rfl, rfl, rfl, by decide +kernel, rfl, by decide +kernel, by decide +kernel⟩
theorem sc__law_equal : FnScope ["actual", "due"] ["actual", "due"] (defScope st__law_equal) := ⟨rfl, rfl, rfl, by decide +kernel, rfl, by decide +kernel, by decide +kernel⟩
theorem sc__law_all_equal : FnScope ["actual", "due", "k"] ["actual", "due"] (defScope st__law_all_equal) := ⟨rfl, rfl, rfl, by decide +kernel, rfl, by decide +kernel, by decide +kernel⟩
theorem sc__law_any_pay : FnScope ["draws", "depth", "pick", "amount", "one", "two", "low"] ["draws", "depth"] (defScope st__law_any_pay) := ⟨rfl, rfl, rfl, by decide +kernel, rfl, by decide +kernel, by decide +kernel⟩
theorem sc__law_at : FnScope ["rows", "size", "s", "a", "p"] ["rows", "size"] (defScope st__law_at) := ⟨rfl, rfl, rfl, by decide +kernel, rfl, by decide +kernel, by decide +kernel⟩
theorem sc__law_joined : FnScope ["word", "one", "two", "starts", "found", "k", "s", "last", "a", "p", "b", "q", "turn", "at", "row"] ["word", "one", "two"] (defScope st__law_joined) := ⟨rfl, rfl, rfl, by decide +kernel, rfl, by decide +kernel, by decide +kernel⟩
theorem sc__law_chosen : FnScope ["low", "high", "one", "two", "starts", "row", "s"] ["low", "high", "one", "two"] (defScope st__law_chosen) := ⟨rfl, rfl, rfl, by decide +kernel, rfl, by decide +kernel, by decide +kernel⟩
theorem sc__law_ends : FnScope ["rows", "found", "k", "s", "a", "p", "last"] ["rows"] (defScope st__law_ends) := ⟨rfl, rfl, rfl, by decide +kernel, rfl, by decide +kernel, by decide +kernel⟩
theorem sc__law_pieces : FnScope ["expression", "insured", "found", "one", "less", "two", "s", "a", "p", "row"] ["expression", "insured"] (defScope st__law_pieces) := ⟨rfl, rfl, rfl, by decide +kernel, rfl, by decide +kernel, by decide +kernel⟩
theorem sc__law_rises : FnScope ["rows", "ends", "k", "last"] ["rows"] (defScope st__law_rises) := ⟨rfl, rfl, rfl, by decide +kernel, rfl, by decide +kernel, by decide +kernel⟩
theorem sc__law_told : FnScope ["words", "e"] ["words"] (defScope st__law_told) := ⟨rfl, rfl, rfl, by decide +kernel, rfl, by decide +kernel, by decide +kernel⟩
theorem sc__law_soft : FnScope ["draws", "depth", "a", "b", "one", "two", "pick"] ["draws", "depth"] (defScope st__law_soft) := ⟨rfl, rfl, rfl, by decide +kernel, rfl, by decide +kernel, by decide +kernel⟩
theorem sc_law : FnScope ["script", "draws", "turn", "expression", "sums", "rows", "due", "terms", "words", "size", "k", "insured", "one"] ["script"] (defScope st_law) := ⟨rfl, rfl, rfl, by decide +kernel, rfl, by decide +kernel, by decide +kernel⟩
section
variable {P : Program} {w : World} {K : PySem.W.Frag} {mg : PySem.Str → Option Value} {base : Heap}
theorem ex_cls (T : Tx K mg) : ∀ c cls, exKnown c = true → mg c = some cls → cls = .ref (He.ga K c) ∧ ExcC K (He.ga K c) := by
  intro c cls h e
  simp only [exKnown, Bool.or_eq_true, beq_iff_eq] at h
  rcases h with rfl | rfl
  · exact ⟨Option.some.inj (e.symm.trans T.x_WhatbefellError.g), T.e_WhatbefellError⟩
  · exact ⟨Option.some.inj (e.symm.trans T.x_BadWords.g), T.e_BadWords⟩
theorem ex_kit_BadWords (T : Tx K mg) : ∀ c, exKnown c = true → PySem.W.kitOne K (.ref (He.ga K c)) (.ref (He.ga K "BadWords")) = some (exSub_BadWords c) := by
  intro c h
  simp only [exKnown, Bool.or_eq_true, beq_iff_eq] at h
  rcases h with rfl | rfl
  · exact T.k_WhatbefellError_BadWords
  · exact T.k_BadWords_BadWords
theorem ex_sub_WhatbefellError (T : Tx K mg) : ∀ c cls, exKnown c = true → mg c = some cls → PySem.W.exmOne K cls (.ref (He.ga K "WhatbefellError")) = some (exSub_WhatbefellError c) := by
  intro c cls h e
  simp only [exKnown, Bool.or_eq_true, beq_iff_eq] at h
  rcases h with rfl | rfl
  · cases e.symm.trans T.x_WhatbefellError.g; exact T.s_WhatbefellError_WhatbefellError
  · cases e.symm.trans T.x_BadWords.g; exact T.s_BadWords_WhatbefellError
theorem ok_is_number (T : Tx K mg) : Okf P w K mg base 1 "is_number" ["value", "low", "high"] F_is_number :=
  T.d_is_number.ok sc_is_number 0 rfl fun cdv A outer s H E hr tk po =>
    (dss_one (dst_ret ((de_and (de_isa (de_name 0) T.z_isinstance T.z_int (.inl rfl) bt_int) (de_and (de_not (de_isa (de_name 0) T.z_isinstance T.z_bool (.inr (.inl rfl)) bt_bool)) (de_one (de_chn le_ok le_ok (de_name 1) (de_name 0) (de_name 2)))))).rv))
theorem ok_is_name (T : Tx K mg) : Okf P w K mg base 1 "is_name" ["value"] F_is_name :=
  T.d_is_name.ok sc_is_name 1 rfl fun cdv A outer s H E hr tk po =>
    (dss_cons (dst_if (dw_or (dt_not (dt_tru (de_isa (de_name 0) T.z_isinstance T.z_str (.inr (.inr (.inl rfl))) bt_str))) (dw_or (dt_not (dt_chn le_ok le_ok de_int (de_callB len_ok T.z_len bt_len (da_cons (de_name 0) da_nil)) de_int)) (dw_or1 (dt_cmp (nin_ok (hu65 hr)) (de_ix (de_name 0) de_int) (de_gS T.m_LETTERS))))).dt (dss_one (dst_ret (de_bl).rv)) dss_nil)
    (dss_one (dst_ret ((de_cmp (eq_ok hr.units) ((do_lc [("sign", 1)] sc_is_name.nd (di_any (de_name 0)) (fun _ _ _ _ _ => (dgb_name 1 sc_is_name.nd)) (fun _ _ _ _ _ => (dts_one (dw_and (dt_cmp (nin_ok (hu65 hr)) (de_name 1) (de_gS T.m_LETTERS)) (dw_and1 (dt_cmp (nin_ok (hu65 hr)) (de_name 1) (de_gS T.m_FIGURES)))).dt)) (fun _ _ _ _ _ => (de_name 1)))).frz ((do_lst da_nil)).frz)).rv)))
theorem ok_is_day (T : Tx K mg) : Okf P w K mg base 2 "is_day" ["value"] F_is_day :=
  T.d_is_day.ok sc_is_day 0 rfl fun cdv A outer s H E hr tk po =>
    (dss_one (dst_ret (do_f (ok_is_number T) (hr.mono (by decide)) tk (da_cons (de_name 0) (da_cons de_int (da_cons (de_gI T.m_LAST) da_nil))) (alenS (alenS (alenS alen0))))))
theorem ok_is_money (T : Tx K mg) : Okf P w K mg base 2 "is_money" ["value"] F_is_money :=
  T.d_is_money.ok sc_is_money 0 rfl fun cdv A outer s H E hr tk po =>
    (dss_one (dst_ret (do_f (ok_is_number T) (hr.mono (by decide)) tk (da_cons (de_name 0) (da_cons de_int (da_cons (de_gI T.m_MONEY) da_nil))) (alenS (alenS (alenS alen0))))))
theorem ok_is_tuple (T : Tx K mg) : Okf P w K mg base 1 "is_tuple" ["value", "low", "high"] F_is_tuple :=
  T.d_is_tuple.ok sc_is_tuple 0 rfl fun cdv A outer s H E hr tk po =>
    (dss_one (dst_ret ((de_and (de_isa (de_name 0) T.z_isinstance T.z_tuple (.inr (.inr (.inr (.inr (.inl rfl))))) bt_tuple) (de_one (de_chn le_ok le_ok (de_name 1) (de_callB len_ok T.z_len bt_len (da_cons (de_name 0) da_nil)) (de_name 2))))).rv))
theorem ok_are_unlike (T : Tx K mg) : Okf P w K mg base 1 "are_unlike" ["values"] F_are_unlike :=
  T.d_are_unlike.ok sc_are_unlike 0 rfl fun cdv A outer s H E hr tk po =>
    (dss_one (dst_ret ((de_cmp (eq_ok hr.units) (de_lenSet T.z_len T.z_set (de_name 0)) (de_callB len_ok T.z_len bt_len (da_cons (de_name 0) da_nil)))).rv))
theorem ok_constant (T : Tx K mg) : Okf P w K mg base 1 "constant" ["value"] F_constant :=
  T.d_constant.ok sc_constant 0 rfl fun cdv A outer s H E hr tk po =>
    (dss_one (dst_ret (do_lst (da_cons (de_tup (da_cons de_int (da_cons (de_gI T.m_MONEY) (da_cons de_int (da_cons (de_name 0) da_nil))))) da_nil))))
theorem ok_itself (T : Tx K mg) : Okf P w K mg base 1 "itself" [] F_itself :=
  T.d_itself.ok sc_itself 0 rfl fun cdv A outer s H E hr tk po =>
    (dss_one (dst_ret (do_lst (da_cons (de_tup (da_cons de_int (da_cons (de_gI T.m_MONEY) (da_cons de_int (da_cons de_int da_nil))))) da_nil))))
theorem ok_joined (T : Tx K mg) : Okf P w K mg base 1 "joined" ["rows"] F_joined :=
  T.d_joined.ok sc_joined 9 rfl fun cdv A outer s H E hr tk po =>
    (dss_cons (dst_new 1 sc_joined.nd (do_lst da_nil))
    (dss_cons (dst_for po (di_any (de_name 0)) (dg_tup 4 (dgs_cons (dg_name 2 sc_joined.nd) (dgs_cons (dg_name 3 sc_joined.nd) (dgs_cons (dg_name 4 sc_joined.nd) (dgs_cons (dg_name 5 sc_joined.nd) dgs_nil)))) (gts_lenS (gts_lenS (gts_lenS (gts_lenS gts_len0))))) (dss_cons (dst_set 4 sc_joined.nd (de_if (dt_cmp gt_ok (de_name 3) (de_name 2)) (de_name 4) de_int))
      (dss_cons (dst_if (dt_tru (de_name 1)) (dss_cons (dst_tgt (de_ix (de_name 1) (de_op sub_ok (de_callB len_ok T.z_len bt_len (da_cons (de_name 1) da_nil)) de_int)) (dg_tup 4 (dgs_cons (dg_name 6 sc_joined.nd) (dgs_cons (dg_name 7 sc_joined.nd) (dgs_cons (dg_name 8 sc_joined.nd) (dgs_cons (dg_name 9 sc_joined.nd) dgs_nil)))) (gts_lenS (gts_lenS (gts_lenS (gts_lenS gts_len0))))))
        (dss_one (dst_if (dw_and (dt_cmp (eq_ok hr.units) (de_name 8) (de_name 4)) (dw_and1 (dt_cmp (eq_ok hr.units) (de_op add_ok (de_name 9) (de_op mul_ok (de_name 4) (de_op sub_ok (de_name 2) (de_name 6)))) (de_name 5)))).dt (dss_cons (dst_sub (de_tup (da_cons (de_name 6) (da_cons (de_name 3) (da_cons (de_name 4) (da_cons (de_name 9) da_nil))))) (de_name 1) (de_op sub_ok (de_callB len_ok T.z_len bt_len (da_cons (de_name 1) da_nil)) de_int))
          (dss_one dst_con)) dss_nil))) dss_nil)
      (dss_one (dst_exp (de_mt PySem.F.slot_list_append PySem.F.type_list_append app_ok (de_name 1) (da_cons (de_tup (da_cons (de_name 2) (da_cons (de_name 3) (da_cons (de_name 4) (da_cons (de_name 5) da_nil))))) da_nil)))))))
    (dss_one (dst_ret ((de_name 1)).rv))))
theorem ok_cut (T : Tx K mg) : Okf P w K mg base 1 "cut" ["rows", "first", "last"] F_cut :=
  T.d_cut.ok sc_cut 6 rfl fun cdv A outer s H E hr tk po =>
    (dss_cons (dst_new 3 sc_cut.nd (do_lst da_nil))
    (dss_cons (dst_for po (di_any (de_name 0)) (dg_tup 4 (dgs_cons (dg_name 4 sc_cut.nd) (dgs_cons (dg_name 5 sc_cut.nd) (dgs_cons (dg_name 6 sc_cut.nd) (dgs_cons (dg_name 7 sc_cut.nd) dgs_nil)))) (gts_lenS (gts_lenS (gts_lenS (gts_lenS gts_len0))))) (dss_one (dst_if (dw_and (dt_cmp le_ok (de_name 4) (de_name 2)) (dw_and1 (dt_cmp ge_ok (de_name 5) (de_name 1)))).dt (dss_cons (dst_set 8 sc_cut.nd (de_callB (max_ok rfl) T.z_max bt_max (da_cons (de_name 4) (da_cons (de_name 1) da_nil))))
        (dss_one (dst_exp (de_mt PySem.F.slot_list_append PySem.F.type_list_append app_ok (de_name 3) (da_cons (de_tup (da_cons (de_name 8) (da_cons (de_callB (min_ok rfl) T.z_min bt_min (da_cons (de_name 5) (da_cons (de_name 2) da_nil))) (da_cons (de_name 6) (da_cons (de_op add_ok (de_name 7) (de_op mul_ok (de_name 6) (de_op sub_ok (de_name 8) (de_name 4)))) da_nil))))) da_nil))))) dss_nil)))
    (dss_one (dst_ret ((de_name 3)).rv))))
theorem ok_paired (T : Tx K mg) : Okf P w K mg base 1 "paired" ["one", "two"] F_paired :=
  T.d_paired.ok sc_paired 7 rfl fun cdv A outer s H E hr tk po =>
    (dss_cons (dst_new 2 sc_paired.nd (do_lst da_nil))
    (dss_cons (dst_set 3 sc_paired.nd de_int)
    (dss_cons (dst_set 4 sc_paired.nd de_int)
    (dss_cons (dst_while (fun _ _ => 10000000) po (dw_and (dt_cmp lt_ok (de_name 3) (de_callB len_ok T.z_len bt_len (da_cons (de_name 0) da_nil))) (dw_and1 (dt_cmp lt_ok (de_name 4) (de_callB len_ok T.z_len bt_len (da_cons (de_name 1) da_nil))))).dt (dss_cons (dst_set 5 sc_paired.nd (de_callB (max_ok rfl) T.z_max bt_max (da_cons (de_ix (de_ix (de_name 0) (de_name 3)) de_int) (da_cons (de_ix (de_ix (de_name 1) (de_name 4)) de_int) da_nil))))
      (dss_cons (dst_set 6 sc_paired.nd (de_callB (min_ok rfl) T.z_min bt_min (da_cons (de_ix (de_ix (de_name 0) (de_name 3)) de_int) (da_cons (de_ix (de_ix (de_name 1) (de_name 4)) de_int) da_nil))))
      (dss_cons (dst_set 7 sc_paired.nd (de_op add_ok (de_ix (de_ix (de_name 0) (de_name 3)) de_int) (de_op mul_ok (de_ix (de_ix (de_name 0) (de_name 3)) de_int) (de_op sub_ok (de_name 5) (de_ix (de_ix (de_name 0) (de_name 3)) de_int)))))
      (dss_cons (dst_set 8 sc_paired.nd (de_op add_ok (de_ix (de_ix (de_name 1) (de_name 4)) de_int) (de_op mul_ok (de_ix (de_ix (de_name 1) (de_name 4)) de_int) (de_op sub_ok (de_name 5) (de_ix (de_ix (de_name 1) (de_name 4)) de_int)))))
      (dss_cons (dst_exp (de_mt PySem.F.slot_list_append PySem.F.type_list_append app_ok (de_name 2) (da_cons (de_tup (da_cons (de_name 5) (da_cons (de_name 6) (da_cons (de_ix (de_ix (de_name 0) (de_name 3)) de_int) (da_cons (de_name 7) (da_cons (de_ix (de_ix (de_name 1) (de_name 4)) de_int) (da_cons (de_name 8) da_nil))))))) da_nil)))
      (dss_cons (dst_if (dt_cmp (eq_ok hr.units) (de_ix (de_ix (de_name 0) (de_name 3)) de_int) (de_name 6)) (dss_one (dst_set 3 sc_paired.nd (de_op add_ok (de_name 3) de_int))) dss_nil)
      (dss_one (dst_if (dt_cmp (eq_ok hr.units) (de_ix (de_ix (de_name 1) (de_name 4)) de_int) (de_name 6)) (dss_one (dst_set 4 sc_paired.nd (de_op add_ok (de_name 4) de_int))) dss_nil)))))))))
    (dss_one (dst_ret ((de_name 2)).rv))))))
theorem ok_added (T : Tx K mg) : Okf P w K mg base 2 "added" ["one", "two", "sign"] F_added :=
  T.d_added.ok sc_added 7 rfl fun cdv A outer s H E hr tk po =>
    (dss_cons (dst_setLc 3 [("first", 4), ("last", 5), ("a", 6), ("b", 7), ("c", 8), ("d", 9)] sc_added.nd (di_any ((do_f (ok_paired T) (hr.mono (by decide)) tk (da_cons (de_name 0) (da_cons (de_name 1) da_nil)) (alenS (alenS alen0)))).frz) (fun _ _ _ _ _ => (dgb_tup 6 (dgbs_cons (dgb_name 4 sc_added.nd) (dgbs_cons (dgb_name 5 sc_added.nd) (dgbs_cons (dgb_name 6 sc_added.nd) (dgbs_cons (dgb_name 7 sc_added.nd) (dgbs_cons (dgb_name 8 sc_added.nd) (dgbs_cons (dgb_name 9 sc_added.nd) dgbs_nil)))))) (gts_lenS (gts_lenS (gts_lenS (gts_lenS (gts_lenS (gts_lenS gts_len0)))))))) (fun _ _ _ _ _ => dts_nil) (fun _ _ _ _ _ => (de_tup (da_cons (de_name 4) (da_cons (de_name 5) (da_cons (de_op add_ok (de_name 6) (de_op mul_ok (de_name 2) (de_name 8))) (da_cons (de_op add_ok (de_name 7) (de_op mul_ok (de_name 2) (de_name 9))) da_nil)))))))
    (dss_one (dst_ret (do_f (ok_joined T) (hr.mono (by decide)) tk (da_cons (de_name 3) da_nil) (alenS alen0)))))
theorem ok_multiplied (T : Tx K mg) : Okf P w K mg base 2 "multiplied" ["rows", "number"] F_multiplied :=
  T.d_multiplied.ok sc_multiplied 4 rfl fun cdv A outer s H E hr tk po =>
    (dss_one (dst_ret (do_f (ok_joined T) (hr.mono (by decide)) tk (da_cons ((do_lc [("first", 2), ("last", 3), ("slope", 4), ("start", 5)] sc_multiplied.nd (di_any (de_name 0)) (fun _ _ _ _ _ => (dgb_tup 4 (dgbs_cons (dgb_name 2 sc_multiplied.nd) (dgbs_cons (dgb_name 3 sc_multiplied.nd) (dgbs_cons (dgb_name 4 sc_multiplied.nd) (dgbs_cons (dgb_name 5 sc_multiplied.nd) dgbs_nil)))) (gts_lenS (gts_lenS (gts_lenS (gts_lenS gts_len0)))))) (fun _ _ _ _ _ => dts_nil) (fun _ _ _ _ _ => (de_tup (da_cons (de_name 2) (da_cons (de_name 3) (da_cons (de_op mul_ok (de_name 4) (de_name 1)) (da_cons (de_op mul_ok (de_name 5) (de_name 1)) da_nil)))))))).frz da_nil) (alenS alen0))))
theorem ok_lesser (T : Tx K mg) : Okf P w K mg base 2 "lesser" ["one", "two"] F_lesser :=
  T.d_lesser.ok sc_lesser 11 rfl fun cdv A outer s H E hr tk po =>
    (dss_cons (dst_new 2 sc_lesser.nd (do_lst da_nil))
    (dss_cons (dst_for po (di_any ((do_f (ok_paired T) (hr.mono (by decide)) tk (da_cons (de_name 0) (da_cons (de_name 1) da_nil)) (alenS (alenS alen0)))).frz) (dg_tup 6 (dgs_cons (dg_name 3 sc_lesser.nd) (dgs_cons (dg_name 4 sc_lesser.nd) (dgs_cons (dg_name 5 sc_lesser.nd) (dgs_cons (dg_name 6 sc_lesser.nd) (dgs_cons (dg_name 7 sc_lesser.nd) (dgs_cons (dg_name 8 sc_lesser.nd) dgs_nil)))))) (gts_lenS (gts_lenS (gts_lenS (gts_lenS (gts_lenS (gts_lenS gts_len0))))))) (dss_cons (dst_set 9 sc_lesser.nd (de_cmp le_ok (de_name 6) (de_name 8)))
      (dss_cons (dst_set 10 sc_lesser.nd (de_cmp le_ok (de_op add_ok (de_name 6) (de_op mul_ok (de_name 5) (de_op sub_ok (de_name 4) (de_name 3)))) (de_op add_ok (de_name 8) (de_op mul_ok (de_name 7) (de_op sub_ok (de_name 4) (de_name 3))))))
      (dss_one (dst_if (dw_and (dt_tru (de_name 9)) (dw_and1 (dt_tru (de_name 10)))).dt (dss_one (dst_exp (de_mt PySem.F.slot_list_append PySem.F.type_list_append app_ok (de_name 2) (da_cons (de_tup (da_cons (de_name 3) (da_cons (de_name 4) (da_cons (de_name 5) (da_cons (de_name 6) da_nil))))) da_nil)))) (dss_one (dst_if (dw_and (dt_not (dt_tru (de_name 9))) (dw_and1 (dt_not (dt_tru (de_name 10))))).dt (dss_one (dst_exp (de_mt PySem.F.slot_list_append PySem.F.type_list_append app_ok (de_name 2) (da_cons (de_tup (da_cons (de_name 3) (da_cons (de_name 4) (da_cons (de_name 7) (da_cons (de_name 8) da_nil))))) da_nil)))) (dss_cons (dst_set 11 sc_lesser.nd (de_if (dt_tru (de_name 9)) (de_op fdiv_ok (de_callB abs_ok T.z_abs bt_abs (da_cons (de_op sub_ok (de_name 8) (de_name 6)) da_nil)) (de_callB abs_ok T.z_abs bt_abs (da_cons (de_op sub_ok (de_name 5) (de_name 7)) da_nil))) (de_op fdiv_ok (de_op sub_ok (de_callB abs_ok T.z_abs bt_abs (da_cons (de_op sub_ok (de_name 8) (de_name 6)) da_nil)) de_int) (de_callB abs_ok T.z_abs bt_abs (da_cons (de_op sub_ok (de_name 5) (de_name 7)) da_nil)))))
          (dss_cons (dst_set 12 sc_lesser.nd (de_op add_ok (de_name 3) (de_name 11)))
          (dss_one (dst_if (dt_tru (de_name 9)) (dss_cons (dst_exp (de_mt PySem.F.slot_list_append PySem.F.type_list_append app_ok (de_name 2) (da_cons (de_tup (da_cons (de_name 3) (da_cons (de_name 12) (da_cons (de_name 5) (da_cons (de_name 6) da_nil))))) da_nil)))
            (dss_one (dst_exp (de_mt PySem.F.slot_list_append PySem.F.type_list_append app_ok (de_name 2) (da_cons (de_tup (da_cons (de_op add_ok (de_name 12) de_int) (da_cons (de_name 4) (da_cons (de_name 7) (da_cons (de_op add_ok (de_name 8) (de_op mul_ok (de_name 7) (de_op add_ok (de_name 11) de_int))) da_nil))))) da_nil))))) (dss_cons (dst_exp (de_mt PySem.F.slot_list_append PySem.F.type_list_append app_ok (de_name 2) (da_cons (de_tup (da_cons (de_name 3) (da_cons (de_name 12) (da_cons (de_name 7) (da_cons (de_name 8) da_nil))))) da_nil)))
            (dss_one (dst_exp (de_mt PySem.F.slot_list_append PySem.F.type_list_append app_ok (de_name 2) (da_cons (de_tup (da_cons (de_op add_ok (de_name 12) de_int) (da_cons (de_name 4) (da_cons (de_name 5) (da_cons (de_op add_ok (de_name 6) (de_op mul_ok (de_name 5) (de_op add_ok (de_name 11) de_int))) da_nil))))) da_nil))))))))))))))))
    (dss_one (dst_ret (do_fV (ok_joined T) (hr.mono (by decide)) tk (da_cons (de_name 2) da_nil) (alenS alen0))))))
theorem ok_greater (T : Tx K mg) : Okf P w K mg base 3 "greater" ["one", "two"] F_greater :=
  T.d_greater.ok sc_greater 0 rfl fun cdv A outer s H E hr tk po =>
    (dss_one (dst_ret (do_f (ok_multiplied T) (hr.mono (by decide)) tk (da_cons ((do_f (ok_lesser T) (hr.mono (by decide)) tk (da_cons ((do_f (ok_multiplied T) (hr.mono (by decide)) tk (da_cons (de_name 0) (da_cons (de_neg de_int) da_nil)) (alenS (alenS alen0)))).frz (da_cons ((do_f (ok_multiplied T) (hr.mono (by decide)) tk (da_cons (de_name 1) (da_cons (de_neg de_int) da_nil)) (alenS (alenS alen0)))).frz da_nil)) (alenS (alenS alen0)))).frz (da_cons (de_neg de_int) da_nil)) (alenS (alenS alen0)))))
theorem ok_chosen (T : Tx K mg) : Okf P w K mg base 2 "chosen" ["first", "last", "one", "two"] F_chosen :=
  T.d_chosen.ok sc_chosen 1 rfl fun cdv A outer s H E hr tk po =>
    (dss_cons (dst_set 4 sc_chosen.nd (de_if (dt_cmp gt_ok (de_name 0) de_int) ((do_f (ok_cut T) (hr.mono (by decide)) tk (da_cons (de_name 3) (da_cons de_int (da_cons (de_op sub_ok (de_name 0) de_int) da_nil))) (alenS (alenS (alenS alen0))))).frz ((do_lst da_nil)).frz))
    (dss_cons (dst_set 4 sc_chosen.nd (de_op add_ok (de_name 4) ((do_f (ok_cut T) (hr.mono (by decide)) tk (da_cons (de_name 2) (da_cons (de_name 0) (da_cons (de_name 1) da_nil))) (alenS (alenS (alenS alen0))))).frz))
    (dss_cons (dst_if (dt_cmp lt_ok (de_name 1) (de_gI T.m_MONEY)) (dss_one (dst_set 4 sc_chosen.nd (de_op add_ok (de_name 4) ((do_f (ok_cut T) (hr.mono (by decide)) tk (da_cons (de_name 3) (da_cons (de_op add_ok (de_name 1) de_int) (da_cons (de_gI T.m_MONEY) da_nil))) (alenS (alenS (alenS alen0))))).frz))) dss_nil)
    (dss_one (dst_ret (do_f (ok_joined T) (hr.mono (by decide)) tk (da_cons (de_name 4) da_nil) (alenS alen0)))))))
theorem ok_least_value (T : Tx K mg) : Okf P w K mg base 1 "least_value" ["rows"] F_least_value :=
  T.d_least_value.ok sc_least_value 4 rfl fun cdv A outer s H E hr tk po =>
    (dss_one (dst_ret ((de_callB (minL_ok rfl) T.z_min bt_min (da_cons ((do_lc [("first", 1), ("last", 2), ("slope", 3), ("start", 4)] sc_least_value.nd (di_any (de_name 0)) (fun _ _ _ _ _ => (dgb_tup 4 (dgbs_cons (dgb_name 1 sc_least_value.nd) (dgbs_cons (dgb_name 2 sc_least_value.nd) (dgbs_cons (dgb_name 3 sc_least_value.nd) (dgbs_cons (dgb_name 4 sc_least_value.nd) dgbs_nil)))) (gts_lenS (gts_lenS (gts_lenS (gts_lenS gts_len0)))))) (fun _ _ _ _ _ => dts_nil) (fun _ _ _ _ _ => (de_callB (min_ok rfl) T.z_min bt_min (da_cons (de_name 4) (da_cons (de_op add_ok (de_name 4) (de_op mul_ok (de_name 3) (de_op sub_ok (de_name 2) (de_name 1)))) da_nil)))))).frz da_nil))).rv))
theorem ok_greatest_value (T : Tx K mg) : Okf P w K mg base 1 "greatest_value" ["rows"] F_greatest_value :=
  T.d_greatest_value.ok sc_greatest_value 4 rfl fun cdv A outer s H E hr tk po =>
    (dss_one (dst_ret ((de_callB (maxL_ok rfl) T.z_max bt_max (da_cons ((do_lc [("first", 1), ("last", 2), ("slope", 3), ("start", 4)] sc_greatest_value.nd (di_any (de_name 0)) (fun _ _ _ _ _ => (dgb_tup 4 (dgbs_cons (dgb_name 1 sc_greatest_value.nd) (dgbs_cons (dgb_name 2 sc_greatest_value.nd) (dgbs_cons (dgb_name 3 sc_greatest_value.nd) (dgbs_cons (dgb_name 4 sc_greatest_value.nd) dgbs_nil)))) (gts_lenS (gts_lenS (gts_lenS (gts_lenS gts_len0)))))) (fun _ _ _ _ _ => dts_nil) (fun _ _ _ _ _ => (de_callB (max_ok rfl) T.z_max bt_max (da_cons (de_name 4) (da_cons (de_op add_ok (de_name 4) (de_op mul_ok (de_name 3) (de_op sub_ok (de_name 2) (de_name 1)))) da_nil)))))).frz da_nil))).rv))
theorem ok_value_at (T : Tx K mg) : Okf P w K mg base 1 "value_at" ["rows", "x"] F_value_at :=
  T.d_value_at.ok sc_value_at 4 rfl fun cdv A outer s H E hr tk po =>
    (dss_cons (dst_for po (di_any (de_name 0)) (dg_tup 4 (dgs_cons (dg_name 2 sc_value_at.nd) (dgs_cons (dg_name 3 sc_value_at.nd) (dgs_cons (dg_name 4 sc_value_at.nd) (dgs_cons (dg_name 5 sc_value_at.nd) dgs_nil)))) (gts_lenS (gts_lenS (gts_lenS (gts_lenS gts_len0))))) (dss_one (dst_if (dt_chn le_ok le_ok (de_name 2) (de_name 1) (de_name 3)) (dss_one (dst_ret ((de_op add_ok (de_name 5) (de_op mul_ok (de_name 4) (de_op sub_ok (de_name 1) (de_name 2))))).rv)) dss_nil)))
    (dss_one (dst_ret (de_int).rv)))
theorem ok_is_gentle (T : Tx K mg) : Okf P w K mg base 2 "is_gentle" ["rows"] F_is_gentle :=
  T.d_is_gentle.ok sc_is_gentle 5 rfl fun cdv A outer s H E hr tk po =>
    (dss_cons (dst_if (dt_cmp (ne_ok hr.units) (de_ix (de_ix (de_name 0) de_int) de_int) de_int) (dss_one (dst_ret (de_bl).rv)) dss_nil)
    (dss_cons (dst_for po (di_rng (de_callB len_ok T.z_len bt_len (da_cons (de_name 0) da_nil)) T.z_range) (dg_name 1 sc_is_gentle.nd) (dss_cons (dst_tgt (de_ix (de_name 0) (de_name 1)) (dg_tup 4 (dgs_cons (dg_name 2 sc_is_gentle.nd) (dgs_cons (dg_name 3 sc_is_gentle.nd) (dgs_cons (dg_name 4 sc_is_gentle.nd) (dgs_cons (dg_name 5 sc_is_gentle.nd) dgs_nil)))) (gts_lenS (gts_lenS (gts_lenS (gts_lenS gts_len0))))))
      (dss_cons (dst_if (dw_and (dt_cmp gt_ok (de_name 3) (de_name 2)) (dw_and1 (dt_cmp (nin_ok (hu65 hr)) (de_name 4) (de_tup (da_cons de_int (da_cons de_int da_nil)))))).dt (dss_one (dst_ret (de_bl).rv)) dss_nil)
      (dss_one (dst_if (dw_and (dt_cmp gt_ok (de_name 1) de_int) (dw_and1 (dt_cmp (nin_ok (hu65 hr)) (de_op sub_ok (de_name 5) ((do_f (ok_value_at T) (hr.mono (by decide)) tk (da_cons ((do_lst (da_cons (de_ix (de_name 0) (de_op sub_ok (de_name 1) de_int)) da_nil))).frz (da_cons (de_ix (de_ix (de_name 0) (de_op sub_ok (de_name 1) de_int)) de_int) da_nil)) (alenS (alenS alen0)))).frz) (de_tup (da_cons de_int (da_cons de_int da_nil)))))).dt (dss_one (dst_ret (de_bl).rv)) dss_nil)))))
    (dss_one (dst_ret (de_bl).rv))))
theorem ok_are_names (T : Tx K mg) : Okf P w K mg base 2 "are_names" ["value"] F_are_names :=
  T.d_are_names.ok sc_are_names 1 rfl fun cdv A outer s H E hr tk po =>
    (dss_one (dst_ret ((de_and ((do_f (ok_is_tuple T) (hr.mono (by decide)) tk (da_cons (de_name 0) (da_cons de_int (da_cons de_int da_nil))) (alenS (alenS (alenS alen0))))).frz (de_one (de_cmp (eq_ok hr.units) ((do_lc [("one", 1)] sc_are_names.nd (di_any (de_name 0)) (fun _ _ _ _ _ => (dgb_name 1 sc_are_names.nd)) (fun _ _ _ _ _ => (dts_one (dt_not (dt_tru ((do_f (ok_is_name T) (hr.mono (by decide)) takesWf (da_cons (de_name 1) da_nil) (alenS alen0))).frz)))) (fun _ _ _ _ _ => (de_name 1)))).frz ((do_lst da_nil)).frz)))).rv))
theorem ok_conditions_in (T : Tx K mg) : Okf P w K mg base 3 "conditions_in" ["value"] F_conditions_in :=
  T.d_conditions_in.ok sc_conditions_in 3 rfl fun cdv A outer s H E hr tk po =>
    (dss_cons (dst_if (dw_or (dt_not (dt_tru (de_isa (de_name 0) T.z_isinstance T.z_tuple (.inr (.inr (.inr (.inr (.inl rfl))))) bt_tuple))) (dw_or (dt_cmp lt_ok (de_callB len_ok T.z_len bt_len (da_cons (de_name 0) da_nil)) de_int) (dw_or1 (dt_not (dt_tru (de_isa (de_ix (de_name 0) de_int) T.z_isinstance T.z_str (.inr (.inr (.inl rfl))) bt_str)))))).dt (dss_one (dst_ret (de_non).rv)) dss_nil)
    (dss_cons (dst_set 1 sc_conditions_in.nd (de_ix (de_name 0) de_int))
    (dss_cons (dst_set 2 sc_conditions_in.nd (de_sl (de_name 0) (dpo_some de_int) dpo_none))
    (dss_cons (dst_if (dt_cmp (eq_ok hr.units) (de_name 1) de_str) (dss_one (dst_set 3 sc_conditions_in.nd (de_cmp (eq_ok hr.units) (de_callB len_ok T.z_len bt_len (da_cons (de_name 2) da_nil)) de_int))) (dss_one (dst_if (dt_cmp (in_ok (hu65 hr)) (de_name 1) (de_tup (da_cons de_str (da_cons de_str (da_cons de_str da_nil))))) (dss_one (dst_set 3 sc_conditions_in.nd ((do_f (ok_are_names T) (hr.mono (by decide)) tk (da_cons (de_name 2) da_nil) (alenS alen0))).frz)) (dss_one (dst_if (dt_cmp (eq_ok hr.units) (de_name 1) de_str) (dss_one (dst_set 3 sc_conditions_in.nd (de_and (de_cmp (eq_ok hr.units) (de_callB len_ok T.z_len bt_len (da_cons (de_name 2) da_nil)) de_int) (de_and ((do_f (ok_is_day T) (hr.mono (by decide)) tk (da_cons (de_ix (de_name 2) de_int) da_nil) (alenS alen0))).frz (de_and ((do_f (ok_is_day T) (hr.mono (by decide)) tk (da_cons (de_ix (de_name 2) de_int) da_nil) (alenS alen0))).frz (de_one (de_cmp le_ok (de_ix (de_name 2) de_int) (de_ix (de_name 2) de_int)))))))) (dss_one (dst_if (dt_cmp (eq_ok hr.units) (de_name 1) de_str) (dss_one (dst_set 3 sc_conditions_in.nd (de_and (de_cmp (eq_ok hr.units) (de_callB len_ok T.z_len bt_len (da_cons (de_name 2) da_nil)) de_int) (de_one ((do_f (ok_is_number T) (hr.mono (by decide)) tk (da_cons (de_ix (de_name 2) de_int) (da_cons de_int (da_cons de_int da_nil))) (alenS (alenS (alenS alen0))))).frz)))) (dss_one (dst_if (dt_cmp (eq_ok hr.units) (de_name 1) de_str) (dss_one (dst_set 3 sc_conditions_in.nd (de_and (de_cmp (eq_ok hr.units) (de_callB len_ok T.z_len bt_len (da_cons (de_name 2) da_nil)) de_int) (de_one ((do_f (ok_is_name T) (hr.mono (by decide)) tk (da_cons (de_ix (de_name 2) de_int) da_nil) (alenS alen0))).frz)))) (dss_one (dst_if (dw_or (dw_and (dt_cmp (eq_ok hr.units) (de_name 1) de_str) (dw_and1 (dt_cmp (eq_ok hr.units) (de_callB len_ok T.z_len bt_len (da_cons (de_name 2) da_nil)) de_int))).dt (dw_or1 (dw_and (dt_cmp (in_ok (hu65 hr)) (de_name 1) (de_tup (da_cons de_str (da_cons de_str da_nil)))) (dw_and1 (dt_chn le_ok le_ok de_int (de_callB len_ok T.z_len bt_len (da_cons (de_name 2) da_nil)) de_int))).dt)).dt (dss_one (dst_ret ((de_callT list_ok T.z_list bt_list (da_cons (de_name 2) da_nil))).rv)) (dss_one (dst_set 3 sc_conditions_in.nd de_bl)))))))))))))
    (dss_one (dst_ret ((de_if (dt_tru (de_name 3)) ((do_lst da_nil)).frz de_non)).rv))))))
theorem ok_pays_in (T : Tx K mg) : Okf P w K mg base 3 "pays_in" ["value"] F_pays_in :=
  T.d_pays_in.ok sc_pays_in 1 rfl fun cdv A outer s H E hr tk po =>
    (dss_cons (dst_if (dt_tru (de_isa (de_name 0) T.z_isinstance T.z_str (.inr (.inr (.inl rfl))) bt_str)) (dss_one (dst_ret ((de_if (dw_or (dt_cmp (eq_ok hr.units) (de_name 0) de_str) (dw_or1 (dt_cmp (eq_ok hr.units) (de_name 0) de_str))).dt ((do_lst da_nil)).frz de_non)).rv)) dss_nil)
    (dss_cons (dst_if (dt_tru ((do_f (ok_is_money T) (hr.mono (by decide)) tk (da_cons (de_name 0) da_nil) (alenS alen0))).frz) (dss_one (dst_ret (do_lst da_nil))) dss_nil)
    (dss_cons (dst_if (dw_or (dt_not (dt_tru (de_isa (de_name 0) T.z_isinstance T.z_tuple (.inr (.inr (.inr (.inr (.inl rfl))))) bt_tuple))) (dw_or (dt_cmp lt_ok (de_callB len_ok T.z_len bt_len (da_cons (de_name 0) da_nil)) de_int) (dw_or1 (dt_not (dt_tru (de_isa (de_ix (de_name 0) de_int) T.z_isinstance T.z_str (.inr (.inr (.inl rfl))) bt_str)))))).dt (dss_one (dst_ret (de_non).rv)) dss_nil)
    (dss_cons (dst_set 1 sc_pays_in.nd (de_ix (de_name 0) de_int))
    (dss_cons (dst_if (dw_and (dt_cmp (in_ok (hu65 hr)) (de_name 1) (de_tup (da_cons de_str (da_cons de_str (da_cons de_str (da_cons de_str da_nil)))))) (dw_and1 (dt_cmp (eq_ok hr.units) (de_callB len_ok T.z_len bt_len (da_cons (de_name 0) da_nil)) de_int))).dt (dss_one (dst_ret ((de_callT list_ok T.z_list bt_list (da_cons (de_sl (de_name 0) (dpo_some de_int) dpo_none) da_nil))).rv)) dss_nil)
    (dss_cons (dst_if (dw_and (dt_cmp (eq_ok hr.units) (de_name 1) de_str) (dw_and (dt_cmp (eq_ok hr.units) (de_callB len_ok T.z_len bt_len (da_cons (de_name 0) da_nil)) de_int) (dw_and1 (dt_tru ((do_f (ok_is_number T) (hr.mono (by decide)) tk (da_cons (de_ix (de_name 0) de_int) (da_cons de_int (da_cons de_int da_nil))) (alenS (alenS (alenS alen0))))).frz)))).dt (dss_one (dst_ret (do_lst (da_cons (de_ix (de_name 0) de_int) da_nil)))) dss_nil)
    (dss_cons (dst_if (dw_and (dt_cmp (eq_ok hr.units) (de_name 1) de_str) (dw_and (dt_cmp (eq_ok hr.units) (de_callB len_ok T.z_len bt_len (da_cons (de_name 0) da_nil)) de_int) (dw_and (dt_tru ((do_f (ok_is_money T) (hr.mono (by decide)) tk (da_cons (de_ix (de_name 0) de_int) da_nil) (alenS alen0))).frz) (dw_and1 (dt_tru ((do_f (ok_is_money T) (hr.mono (by decide)) tk (da_cons (de_ix (de_name 0) de_int) da_nil) (alenS alen0))).frz))))).dt (dss_one (dst_ret (do_lst (da_cons (de_ix (de_name 0) de_int) da_nil)))) dss_nil)
    (dss_cons (dst_if (dw_and (dt_cmp (eq_ok hr.units) (de_name 1) de_str) (dw_and (dt_cmp (eq_ok hr.units) (de_callB len_ok T.z_len bt_len (da_cons (de_name 0) da_nil)) de_int) (dw_and (dt_tru ((do_f (ok_is_money T) (hr.mono (by decide)) tk (da_cons (de_ix (de_name 0) de_int) da_nil) (alenS alen0))).frz) (dw_and (dt_tru ((do_f (ok_is_money T) (hr.mono (by decide)) tk (da_cons (de_ix (de_name 0) de_int) da_nil) (alenS alen0))).frz) (dw_and1 (dt_cmp le_ok (de_ix (de_name 0) de_int) (de_ix (de_name 0) de_int))))))).dt (dss_one (dst_ret ((de_callT list_ok T.z_list bt_list (da_cons (de_sl (de_name 0) (dpo_some de_int) dpo_none) da_nil))).rv)) dss_nil)
    (dss_one (dst_ret (de_non).rv))))))))))
theorem ok_are_few__conditions_in (T : Tx K mg) : Okf P w K mg base 4 "are_few" ["value", "parts_in"] (F_are_few__conditions_in K) :=
  T.d_are_few.ok sc_are_few 3 rfl fun cdv A outer s H E hr tk po =>
    (dss_cons (dst_new 2 sc_are_few.nd (do_lst (da_cons (de_name 0) da_nil)))
    (dss_cons (dst_set 3 sc_are_few.nd de_int)
    (dss_cons (dst_while (fun _ _ => 100) po (dw_and (dt_tru (de_name 2)) (dw_and1 (dt_cmp le_ok (de_name 3) de_int))).dt (dss_cons (dst_set 4 sc_are_few.nd ((do_fL 1 (y := "conditions_in") (ok_conditions_in T) (hr.mono (by decide)) (da_cons (de_mt0 PySem.F.slot_list_pop PySem.F.type_list_pop pop_ok (de_name 2)) da_nil) (alenS alen0))).frz)
      (dss_cons (dst_if (dt_isn (de_name 4)) (dss_one (dst_ret (de_bl).rv)) dss_nil)
      (dss_cons (dst_set 3 sc_are_few.nd (de_op add_ok (de_name 3) de_int))
      (dss_one (dst_exp (de_mt PySem.F.slot_list_extend PySem.F.type_list_extend ext_ok (de_name 2) (da_cons (de_name 4) da_nil))))))))
    (dss_one (dst_ret ((de_cmp le_ok (de_name 3) de_int)).rv)))))
theorem ok_are_few__pays_in (T : Tx K mg) : Okf P w K mg base 4 "are_few" ["value", "parts_in"] (F_are_few__pays_in K) :=
  T.d_are_few.ok sc_are_few 3 rfl fun cdv A outer s H E hr tk po =>
    (dss_cons (dst_new 2 sc_are_few.nd (do_lst (da_cons (de_name 0) da_nil)))
    (dss_cons (dst_set 3 sc_are_few.nd de_int)
    (dss_cons (dst_while (fun _ _ => 100) po (dw_and (dt_tru (de_name 2)) (dw_and1 (dt_cmp le_ok (de_name 3) de_int))).dt (dss_cons (dst_set 4 sc_are_few.nd ((do_fL 1 (y := "pays_in") (ok_pays_in T) (hr.mono (by decide)) (da_cons (de_mt0 PySem.F.slot_list_pop PySem.F.type_list_pop pop_ok (de_name 2)) da_nil) (alenS alen0))).frz)
      (dss_cons (dst_if (dt_isn (de_name 4)) (dss_one (dst_ret (de_bl).rv)) dss_nil)
      (dss_cons (dst_set 3 sc_are_few.nd (de_op add_ok (de_name 3) de_int))
      (dss_one (dst_exp (de_mt PySem.F.slot_list_extend PySem.F.type_list_extend ext_ok (de_name 2) (da_cons (de_name 4) da_nil))))))))
    (dss_one (dst_ret ((de_cmp le_ok (de_name 3) de_int)).rv)))))
theorem ok_is_condition (T : Tx K mg) : Okf P w K mg base 5 "is_condition" ["value"] (F_is_condition K) :=
  T.d_is_condition.ok sc_is_condition 0 rfl fun cdv A outer s H E hr tk po =>
    (dss_one (dst_ret (do_f (ok_are_few__conditions_in T) (hr.mono (by decide)) tk (da_cons (de_name 0) (da_cons (de_globF T.d_conditions_in.g) da_nil)) (alenS (alenS alen0)))))
theorem ok_is_pay (T : Tx K mg) : Okf P w K mg base 5 "is_pay" ["value"] (F_is_pay K) :=
  T.d_is_pay.ok sc_is_pay 0 rfl fun cdv A outer s H E hr tk po =>
    (dss_one (dst_ret (do_f (ok_are_few__pays_in T) (hr.mono (by decide)) tk (da_cons (de_name 0) (da_cons (de_globF T.d_pays_in.g) da_nil)) (alenS (alenS alen0)))))
theorem st_ok_line_of_parts {k : Nat} (hk : 3 ≤ k) {f_line_of_parts : List S → M Rv} {f_line_of : List S → M Rv} (T : Tx K mg) (h_line_of_parts : Okf P w K mg base k "line_of_parts" ["expression", "insured"] f_line_of_parts) (h_line_of : Okf P w K mg base k "line_of" ["expression", "insured"] f_line_of) : Okf P w K mg base (k + 1) "line_of_parts" ["expression", "insured"] (runG 3 (B_line_of_parts f_line_of_parts f_line_of)) :=
  T.d_line_of_parts.ok sc_line_of_parts 3 rfl fun cdv A outer s H E hr tk po =>
    (dss_cons (dst_set 2 sc_line_of_parts.nd (de_ix (de_name 0) de_int))
    (dss_cons (dst_if (dt_cmp (eq_ok hr.units) (de_name 2) de_str) (dss_cons (dst_set 3 sc_line_of_parts.nd ((do_f h_line_of hr tk (da_cons (de_ix (de_name 0) de_int) (da_cons (de_name 1) da_nil)) (alenS (alenS alen0)))).frz)
      (dss_one (dst_ret ((de_if (dt_isn (de_name 3)) de_non ((do_f (ok_multiplied T) (hr.mono (by omega)) tk (da_cons (de_name 3) (da_cons (de_ix (de_name 0) de_int) da_nil)) (alenS (alenS alen0)))).frz)).rv))) dss_nil)
    (dss_cons (dst_if (dt_cmp (eq_ok hr.units) (de_name 2) de_str) (dss_cons (dst_set 3 sc_line_of_parts.nd ((do_f h_line_of hr tk (da_cons (de_ix (de_name 0) de_int) (da_cons (de_name 1) da_nil)) (alenS (alenS alen0)))).frz)
      (dss_cons (dst_if (dt_isn (de_name 3)) (dss_one (dst_ret (de_non).rv)) dss_nil)
      (dss_one (dst_ret (do_f (ok_lesser T) (hr.mono (by omega)) tk (da_cons ((do_f (ok_greater T) (hr.mono (by omega)) tk (da_cons ((do_f (ok_added T) (hr.mono (by omega)) tk (da_cons (de_name 3) (da_cons ((do_f (ok_constant T) (hr.mono (by omega)) tk (da_cons (de_ix (de_name 0) de_int) da_nil) (alenS alen0))).frz (da_cons (de_neg de_int) da_nil))) (alenS (alenS (alenS alen0))))).frz (da_cons ((do_f (ok_constant T) (hr.mono (by omega)) tk (da_cons de_int da_nil) (alenS alen0))).frz da_nil)) (alenS (alenS alen0)))).frz (da_cons ((do_f (ok_constant T) (hr.mono (by omega)) tk (da_cons (de_ix (de_name 0) de_int) da_nil) (alenS alen0))).frz da_nil)) (alenS (alenS alen0))))))) dss_nil)
    (dss_cons (dst_set 3 sc_line_of_parts.nd ((do_f h_line_of hr tk (da_cons (de_if (dt_cmp (eq_ok hr.units) (de_name 2) de_str) (de_ix (de_name 0) de_int) (de_ix (de_name 0) de_int)) (da_cons (de_name 1) da_nil)) (alenS (alenS alen0)))).frz)
    (dss_cons (dst_set 4 sc_line_of_parts.nd ((do_f h_line_of hr tk (da_cons (de_if (dt_cmp (eq_ok hr.units) (de_name 2) de_str) (de_ix (de_name 0) de_int) (de_ix (de_name 0) de_int)) (da_cons (de_name 1) da_nil)) (alenS (alenS alen0)))).frz)
    (dss_cons (dst_if (dw_or (dt_isn (de_name 3)) (dw_or1 (dt_isn (de_name 4)))).dt (dss_one (dst_ret (de_non).rv)) dss_nil)
    (dss_cons (dst_if (dt_cmp (eq_ok hr.units) (de_name 2) de_str) (dss_one (dst_ret (do_f (ok_chosen T) (hr.mono (by omega)) tk (da_cons (de_ix (de_name 0) de_int) (da_cons (de_ix (de_name 0) de_int) (da_cons (de_name 3) (da_cons (de_name 4) da_nil)))) (alenS (alenS (alenS (alenS alen0))))))) dss_nil)
    (dss_cons (dst_if (dt_cmp (eq_ok hr.units) (de_name 2) de_str) (dss_one (dst_ret (do_f (ok_lesser T) (hr.mono (by omega)) tk (da_cons (de_name 3) (da_cons (de_name 4) da_nil)) (alenS (alenS alen0))))) dss_nil)
    (dss_cons (dst_if (dt_cmp (eq_ok hr.units) (de_name 2) de_str) (dss_one (dst_ret (do_f (ok_greater T) (hr.mono (by omega)) tk (da_cons (de_name 3) (da_cons (de_name 4) da_nil)) (alenS (alenS alen0))))) dss_nil)
    (dss_one (dst_ret (do_f (ok_added T) (hr.mono (by omega)) tk (da_cons (de_name 3) (da_cons (de_name 4) (da_cons (de_if (dt_cmp (eq_ok hr.units) (de_name 2) de_str) de_int (de_neg de_int)) da_nil))) (alenS (alenS (alenS alen0)))))))))))))))
theorem st_ok_line_of {k : Nat} (hk : 3 ≤ k) {f_line_of_parts : List S → M Rv} {f_line_of : List S → M Rv} (T : Tx K mg) (h_line_of_parts : Okf P w K mg base k "line_of_parts" ["expression", "insured"] f_line_of_parts) (h_line_of : Okf P w K mg base k "line_of" ["expression", "insured"] f_line_of) : Okf P w K mg base (k + 1) "line_of" ["expression", "insured"] (runG 1 (B_line_of f_line_of_parts f_line_of)) :=
  T.d_line_of.ok sc_line_of 1 rfl fun cdv A outer s H E hr tk po =>
    (dss_cons (dst_if (dt_tru (de_isa (de_name 0) T.z_isinstance T.z_str (.inr (.inr (.inl rfl))) bt_str)) (dss_one (dst_set 2 sc_line_of.nd (de_if (dt_cmp (eq_ok hr.units) (de_name 0) de_str) ((do_f0 (ok_itself T) (hr.mono (by omega)) tk)).frz ((do_f (ok_constant T) (hr.mono (by omega)) tk (da_cons (de_name 1) da_nil) (alenS alen0))).frz))) (dss_one (dst_if (dt_tru (de_isa (de_name 0) T.z_isinstance T.z_int (.inl rfl) bt_int)) (dss_one (dst_set 2 sc_line_of.nd ((do_f (ok_constant T) (hr.mono (by omega)) tk (da_cons (de_name 0) da_nil) (alenS alen0))).frz)) (dss_one (dst_set 2 sc_line_of.nd ((do_f h_line_of_parts hr tk (da_cons (de_name 0) (da_cons (de_name 1) da_nil)) (alenS (alenS alen0)))).frz)))))
    (dss_cons (dst_if (dw_or (dt_isn (de_name 2)) (dw_or (dt_cmp lt_ok ((do_f (ok_least_value T) (hr.mono (by omega)) tk (da_cons (de_name 2) da_nil) (alenS alen0))).frz (de_neg (de_gI T.m_MOST))) (dw_or1 (dt_cmp gt_ok ((do_f (ok_greatest_value T) (hr.mono (by omega)) tk (da_cons (de_name 2) da_nil) (alenS alen0))).frz (de_gI T.m_MOST))))).dt (dss_one (dst_ret (de_non).rv)) dss_nil)
    (dss_one (dst_ret ((de_name 2)).rv))))
theorem oks_line_of_parts_line_of (T : Tx K mg) : ∀ n, Okf P w K mg base (3 + n) "line_of_parts" ["expression", "insured"] (F_line_of_parts n) ∧ Okf P w K mg base (3 + n) "line_of" ["expression", "insured"] (F_line_of n)
  | 0 => ⟨T.d_line_of_parts.ok0, T.d_line_of.ok0⟩
  | n + 1 => have ih := oks_line_of_parts_line_of T n; ⟨st_ok_line_of_parts (Nat.le_add_right _ _) T ih.1 ih.2, st_ok_line_of (Nat.le_add_right _ _) T ih.1 ih.2⟩
theorem ok_line_of_parts (T : Tx K mg) (n : Nat) : Okf P w K mg base (3 + n) "line_of_parts" ["expression", "insured"] (F_line_of_parts n) := (oks_line_of_parts_line_of T n).1
theorem ok_line_of (T : Tx K mg) (n : Nat) : Okf P w K mg base (3 + n) "line_of" ["expression", "insured"] (F_line_of n) := (oks_line_of_parts_line_of T n).2
theorem ok_is_layer (T : Tx K mg) : Okf P w K mg base 3 "is_layer" ["value"] F_is_layer :=
  T.d_is_layer.ok sc_is_layer 0 rfl fun cdv A outer s H E hr tk po =>
    (dss_cons (dst_if (dt_not (dt_tru (de_isa (de_name 0) T.z_isinstance T.z_tuple (.inr (.inr (.inr (.inr (.inl rfl))))) bt_tuple))) (dss_one (dst_ret (de_bl).rv)) dss_nil)
    (dss_one (dst_ret ((de_or (de_cmp (eq_ok hr.units) (de_name 0) (de_tup da_nil)) (de_one (de_and (de_cmp (eq_ok hr.units) (de_callB len_ok T.z_len bt_len (da_cons (de_name 0) da_nil)) de_int) (de_and ((do_f (ok_is_money T) (hr.mono (by decide)) tk (da_cons (de_ix (de_name 0) de_int) da_nil) (alenS alen0))).frz (de_one ((do_f (ok_is_money T) (hr.mono (by decide)) tk (da_cons (de_ix (de_name 0) de_int) da_nil) (alenS alen0))).frz)))))).rv)))
theorem ok_is_back (T : Tx K mg) : Okf P w K mg base 2 "is_back" ["value"] F_is_back :=
  T.d_is_back.ok sc_is_back 0 rfl fun cdv A outer s H E hr tk po =>
    (dss_cons (dst_if (dt_not (dt_tru (de_isa (de_name 0) T.z_isinstance T.z_tuple (.inr (.inr (.inr (.inr (.inl rfl))))) bt_tuple))) (dss_one (dst_ret (de_bl).rv)) dss_nil)
    (dss_one (dst_ret ((de_or (de_cmp (eq_ok hr.units) (de_name 0) (de_tup da_nil)) (de_one (de_and (de_cmp (eq_ok hr.units) (de_callB len_ok T.z_len bt_len (da_cons (de_name 0) da_nil)) de_int) (de_and ((do_f (ok_is_number T) (hr.mono (by decide)) tk (da_cons (de_ix (de_name 0) de_int) (da_cons de_int (da_cons de_int da_nil))) (alenS (alenS (alenS alen0))))).frz (de_one ((do_f (ok_is_number T) (hr.mono (by decide)) tk (da_cons (de_ix (de_name 0) de_int) (da_cons de_int (da_cons de_int da_nil))) (alenS (alenS (alenS alen0))))).frz)))))).rv)))
theorem ok_are_words (T : Tx K mg) : Okf P w K mg base 64 "are_words" ["value"] (F_are_words K) :=
  T.d_are_words.ok sc_are_words 6 rfl fun cdv A outer s H E hr tk po =>
    (dss_cons (dst_if (dw_or (dt_not (dt_tru ((do_f (ok_is_tuple T) (hr.mono (by decide)) tk (da_cons (de_name 0) (da_cons de_int (da_cons de_int da_nil))) (alenS (alenS (alenS alen0))))).frz)) (dw_or (dt_not (dt_tru (de_isa (de_ix (de_name 0) de_int) T.z_isinstance T.z_str (.inr (.inr (.inl rfl))) bt_str))) (dw_or1 (dt_cmp (ne_ok hr.units) (de_ix (de_name 0) de_int) de_str)))).dt (dss_one (dst_ret (de_bl).rv)) dss_nil)
    (dss_cons (dst_par 1 2 sc_are_words.nd (de_ix (de_name 0) de_int) (de_ix (de_name 0) de_int))
    (dss_cons (dst_if (dw_or (dt_not (dt_tru ((do_f (ok_is_tuple T) (hr.mono (by decide)) tk (da_cons (de_name 1) (da_cons de_int (da_cons de_int da_nil))) (alenS (alenS (alenS alen0))))).frz)) (dw_or1 (dt_not (dt_tru ((do_f (ok_is_tuple T) (hr.mono (by decide)) tk (da_cons (de_name 2) (da_cons de_int (da_cons de_int da_nil))) (alenS (alenS (alenS alen0))))).frz)))).dt (dss_one (dst_ret (de_bl).rv)) dss_nil)
    (dss_cons (dst_for po (di_any (de_name 2)) (dg_name 3 sc_are_words.nd) (dss_one (dst_if (dw_or (dt_not (dt_tru ((do_f (ok_is_tuple T) (hr.mono (by decide)) tk (da_cons (de_name 3) (da_cons de_int (da_cons de_int da_nil))) (alenS (alenS (alenS alen0))))).frz)) (dw_or (dt_not (dt_tru ((do_f (ok_is_name T) (hr.mono (by decide)) tk (da_cons (de_ix (de_name 3) de_int) da_nil) (alenS alen0))).frz)) (dw_or1 (dt_not (dt_tru ((do_f (ok_is_money T) (hr.mono (by decide)) tk (da_cons (de_ix (de_name 3) de_int) da_nil) (alenS alen0))).frz))))).dt (dss_one (dst_ret (de_bl).rv)) dss_nil)))
    (dss_cons (dst_if (dt_not (dt_tru ((do_f (ok_are_unlike T) (hr.mono (by decide)) tk (da_cons ((do_lc [("pair", 3)] sc_are_words.nd (di_any (de_name 2)) (fun _ _ _ _ _ => (dgb_name 3 sc_are_words.nd)) (fun _ _ _ _ _ => dts_nil) (fun _ _ _ _ _ => (de_ix (de_name 3) de_int)))).frz da_nil) (alenS alen0))).frz)) (dss_one (dst_ret (de_bl).rv)) dss_nil)
    (dss_cons (dst_for po (di_any (de_name 1)) (dg_name 3 sc_are_words.nd) (dss_cons (dst_if (dw_or (dt_not (dt_tru ((do_f (ok_is_tuple T) (hr.mono (by decide)) tk (da_cons (de_name 3) (da_cons de_int (da_cons de_int da_nil))) (alenS (alenS (alenS alen0))))).frz)) (dw_or (dt_not (dt_tru ((do_f (ok_is_condition T) (hr.mono (by decide)) tk (da_cons (de_ix (de_name 3) de_int) da_nil) (alenS alen0))).frz)) (dw_or1 (dt_not (dt_tru ((do_f (ok_is_pay T) (hr.mono (by decide)) tk (da_cons (de_ix (de_name 3) de_int) da_nil) (alenS alen0))).frz))))).dt (dss_one (dst_ret (de_bl).rv)) dss_nil)
      (dss_one (dst_for po (di_any (de_sortedSet T.z_sorted T.z_set ((do_lc [("one", 6)] sc_are_words.nd (di_any (de_name 2)) (fun _ _ _ _ _ => (dgb_name 6 sc_are_words.nd)) (fun _ _ _ _ _ => dts_nil) (fun _ _ _ _ _ => (de_ix (de_name 6) de_int)))).frz)) (dg_name 4 sc_are_words.nd) (dss_cons (dst_set 5 sc_are_words.nd ((do_f (ok_line_of T 60) (hr.mono (by decide)) tk (da_cons (de_ix (de_name 3) de_int) (da_cons (de_name 4) da_nil)) (alenS (alenS alen0)))).frz)
        (dss_one (dst_if (dw_or (dt_isn (de_name 5)) (dw_or1 (dt_not (dt_tru ((do_f (ok_is_gentle T) (hr.mono (by decide)) tk (da_cons (de_name 5) da_nil) (alenS alen0))).frz)))).dt (dss_one (dst_ret (de_bl).rv)) dss_nil)))))))
    (dss_cons (dst_if (dw_or (dt_not (dt_tru ((do_f (ok_is_layer T) (hr.mono (by decide)) tk (da_cons (de_ix (de_name 0) de_int) da_nil) (alenS alen0))).frz)) (dw_or (dt_not (dt_tru ((do_f (ok_is_layer T) (hr.mono (by decide)) tk (da_cons (de_ix (de_name 0) de_int) da_nil) (alenS alen0))).frz)) (dw_or1 (dt_not (dt_tru ((do_f (ok_is_back T) (hr.mono (by decide)) tk (da_cons (de_ix (de_name 0) de_int) da_nil) (alenS alen0))).frz))))).dt (dss_one (dst_ret (de_bl).rv)) dss_nil)
    (dss_one (dst_ret ((de_and ((do_f (ok_is_money T) (hr.mono (by decide)) tk (da_cons (de_ix (de_name 0) de_int) da_nil) (alenS alen0))).frz (de_one ((do_f (ok_is_money T) (hr.mono (by decide)) tk (da_cons (de_ix (de_name 0) de_int) da_nil) (alenS alen0))).frz))).rv)))))))))
theorem ok_check_words (T : Tx K mg) : Okf P w K mg base 65 "check_words" ["value"] (F_check_words K) :=
  T.d_check_words.ok sc_check_words 0 rfl fun cdv A outer s H E hr tk po =>
    (dss_one (dst_if (dt_not (dt_tru ((do_f (ok_are_words T) (hr.mono (by decide)) tk (da_cons (de_name 0) da_nil) (alenS alen0))).frz)) (dss_one (dst_rs T.x_BadWords tk)) dss_nil))
theorem st_ok_paid_by {k : Nat} (hk : 0 ≤ k) {f_paid_by : List S → M Rv} (T : Tx K mg) (h_paid_by : Okf P w K mg base k "paid_by" ["expression", "insured", "size"] f_paid_by) : Okf P w K mg base (k + 1) "paid_by" ["expression", "insured", "size"] (runG 3 (B_paid_by f_paid_by)) :=
  T.d_paid_by.ok sc_paid_by 3 rfl fun cdv A outer s H E hr tk po =>
    (dss_cons (dst_if (dt_tru (de_isa (de_name 0) T.z_isinstance T.z_str (.inr (.inr (.inl rfl))) bt_str)) (dss_one (dst_ret ((de_if (dt_cmp (eq_ok hr.units) (de_name 0) de_str) (de_name 2) (de_name 1))).rv)) dss_nil)
    (dss_cons (dst_if (dt_tru (de_isa (de_name 0) T.z_isinstance T.z_int (.inl rfl) bt_int)) (dss_one (dst_ret ((de_name 0)).rv)) dss_nil)
    (dss_cons (dst_set 3 sc_paid_by.nd (de_ix (de_name 0) de_int))
    (dss_cons (dst_if (dt_cmp (eq_ok hr.units) (de_name 3) de_str) (dss_one (dst_ret ((de_op mul_ok (de_ix (de_name 0) de_int) ((do_f h_paid_by hr tk (da_cons (de_ix (de_name 0) de_int) (da_cons (de_name 1) (da_cons (de_name 2) da_nil))) (alenS (alenS (alenS alen0))))).frz)).rv)) dss_nil)
    (dss_cons (dst_if (dt_cmp (eq_ok hr.units) (de_name 3) de_str) (dss_one (dst_ret ((de_callB (min_ok rfl) T.z_min bt_min (da_cons (de_callB (max_ok rfl) T.z_max bt_max (da_cons (de_op sub_ok ((do_f h_paid_by hr tk (da_cons (de_ix (de_name 0) de_int) (da_cons (de_name 1) (da_cons (de_name 2) da_nil))) (alenS (alenS (alenS alen0))))).frz (de_ix (de_name 0) de_int)) (da_cons de_int da_nil))) (da_cons (de_ix (de_name 0) de_int) da_nil)))).rv)) dss_nil)
    (dss_cons (dst_if (dt_cmp (eq_ok hr.units) (de_name 3) de_str) (dss_one (dst_ret (do_f h_paid_by hr tk (da_cons (de_if (dt_chn le_ok le_ok (de_ix (de_name 0) de_int) (de_name 2) (de_ix (de_name 0) de_int)) (de_ix (de_name 0) de_int) (de_ix (de_name 0) de_int)) (da_cons (de_name 1) (da_cons (de_name 2) da_nil))) (alenS (alenS (alenS alen0)))))) dss_nil)
    (dss_cons (dst_set 4 sc_paid_by.nd ((do_f h_paid_by hr tk (da_cons (de_ix (de_name 0) de_int) (da_cons (de_name 1) (da_cons (de_name 2) da_nil))) (alenS (alenS (alenS alen0))))).frz)
    (dss_cons (dst_set 5 sc_paid_by.nd ((do_f h_paid_by hr tk (da_cons (de_ix (de_name 0) de_int) (da_cons (de_name 1) (da_cons (de_name 2) da_nil))) (alenS (alenS (alenS alen0))))).frz)
    (dss_cons (dst_if (dt_cmp (eq_ok hr.units) (de_name 3) de_str) (dss_one (dst_ret ((de_callB (min_ok rfl) T.z_min bt_min (da_cons (de_name 4) (da_cons (de_name 5) da_nil)))).rv)) dss_nil)
    (dss_cons (dst_if (dt_cmp (eq_ok hr.units) (de_name 3) de_str) (dss_one (dst_ret ((de_callB (max_ok rfl) T.z_max bt_max (da_cons (de_name 4) (da_cons (de_name 5) da_nil)))).rv)) dss_nil)
    (dss_one (dst_ret ((de_if (dt_cmp (eq_ok hr.units) (de_name 3) de_str) (de_op add_ok (de_name 4) (de_name 5)) (de_op sub_ok (de_name 4) (de_name 5)))).rv))))))))))))
theorem ok_paid_by (T : Tx K mg) : ∀ n, Okf P w K mg base (0 + n) "paid_by" ["expression", "insured", "size"] (F_paid_by n)
  | 0 => T.d_paid_by.ok0
  | n + 1 => st_ok_paid_by (Nat.le_add_right _ _) T (ok_paid_by T n)
theorem ok_pay (T : Tx K mg) : Okf P w K mg base 31 "pay" ["expression", "insured", "size"] (F_pay K) :=
  T.d_pay.ok sc_pay 0 rfl fun cdv A outer s H E hr tk po =>
    (dss_cons (dst_if (dw_or (dt_not (dt_tru ((do_f (ok_is_pay T) (hr.mono (by decide)) tk (da_cons (de_name 0) da_nil) (alenS alen0))).frz)) (dw_or (dt_not (dt_tru ((do_f (ok_is_money T) (hr.mono (by decide)) tk (da_cons (de_name 1) da_nil) (alenS alen0))).frz)) (dw_or1 (dt_not (dt_tru ((do_f (ok_is_money T) (hr.mono (by decide)) tk (da_cons (de_name 2) da_nil) (alenS alen0))).frz))))).dt (dss_one (dst_rs T.x_BadWords tk)) dss_nil)
    (dss_one (dst_ret (do_f (ok_paid_by T 30) (hr.mono (by decide)) tk (da_cons (de_name 0) (da_cons (de_name 1) (da_cons (de_name 2) da_nil))) (alenS (alenS (alenS alen0)))))))
theorem ok__law_mixed (T : Tx K mg) : Okf P w K mg base 1 "_law_mixed" ["number", "k"] F__law_mixed :=
  T.d__law_mixed.ok sc__law_mixed 1 rfl fun cdv A outer s H E hr tk po =>
    (dss_cons (dst_set 2 sc__law_mixed.nd (de_op mod_ok (de_op add_ok (de_op add_ok (de_op mul_ok (de_name 0) de_int) (de_op mul_ok (de_name 1) de_int)) de_int) de_int))
    (dss_one (dst_ret ((de_op mod_ok (de_op add_ok (de_op mul_ok (de_name 2) (de_op add_ok (de_op fdiv_ok (de_name 2) de_int) de_int)) (de_name 1)) de_int)).rv)))
theorem ok__law_numbers (T : Tx K mg) : Okf P w K mg base 2 "_law_numbers" ["script"] F__law_numbers :=
  T.d__law_numbers.ok sc__law_numbers 4 rfl fun cdv A outer s H E hr tk po =>
    (dss_cons (dst_new 1 sc__law_numbers.nd (do_lst da_nil))
    (dss_cons (dst_for po (di_any (de_name 0)) (dg_name 2 sc__law_numbers.nd) (dss_one (dst_if (dt_cmp ge_ok (de_name 2) (de_op pow_ok de_int de_int)) (dss_cons (dst_set 3 sc__law_numbers.nd (de_name 2))
        (dss_one (dst_for po (di_rng de_int T.z_range) (dg_name 4 sc__law_numbers.nd) (dss_one (dst_if (dt_cmp gt_ok (de_name 3) de_int) (dss_cons (dst_exp (de_mt PySem.F.slot_list_append PySem.F.type_list_append app_ok (de_name 1) (da_cons (de_op mod_ok (de_name 3) de_int) da_nil)))
            (dss_one (dst_set 3 sc__law_numbers.nd (de_op fdiv_ok (de_name 3) de_int)))) dss_nil))))) (dss_cons (dst_exp (de_mt PySem.F.slot_list_append PySem.F.type_list_append app_ok (de_name 1) (da_cons (de_op mod_ok (de_name 2) de_int) da_nil)))
        (dss_one (dst_for po (di_rng de_int T.z_range) (dg_name 4 sc__law_numbers.nd) (dss_one (dst_exp (de_mt PySem.F.slot_list_append PySem.F.type_list_append app_ok (de_name 1) (da_cons (de_op mod_ok ((do_f (ok__law_mixed T) (hr.mono (by decide)) tk (da_cons ((do_f (ok__law_mixed T) (hr.mono (by decide)) tk (da_cons (de_op mod_ok (de_name 2) de_int) (da_cons (de_name 4) da_nil)) (alenS (alenS alen0)))).frz (da_cons (de_op add_ok (de_name 4) de_int) da_nil)) (alenS (alenS alen0)))).frz de_int) da_nil))))))))))
    (dss_one (dst_ret ((de_name 1)).rv))))
theorem ok__law_draw (T : Tx K mg) : Okf P w K mg base 2 "_law_draw" ["draws"] F__law_draw :=
  T.d__law_draw.ok sc__law_draw 2 rfl fun cdv A outer s H E hr tk po =>
    (dss_cons (dst_set 1 sc__law_draw.nd (de_ix (de_name 0) de_int))
    (dss_cons (dst_sub (de_op add_ok (de_name 1) de_int) (de_name 0) de_int)
    (dss_cons (dst_if (dt_cmp lt_ok (de_name 1) (de_callB len_ok T.z_len bt_len (da_cons (de_ix (de_name 0) de_int) da_nil))) (dss_one (dst_ret ((de_ix (de_ix (de_name 0) de_int) (de_name 1))).rv)) dss_nil)
    (dss_cons (dst_set 2 sc__law_draw.nd (de_op add_ok de_int (de_name 1)))
    (dss_cons (dst_if (dt_cmp gt_ok (de_callB len_ok T.z_len bt_len (da_cons (de_ix (de_name 0) de_int) da_nil)) de_int) (dss_one (dst_set 2 sc__law_draw.nd (de_op add_ok (de_name 2) (de_op mul_ok de_int (de_ix (de_ix (de_name 0) de_int) de_int))))) dss_nil)
    (dss_one (dst_ret ((de_op mod_ok ((do_f (ok__law_mixed T) (hr.mono (by decide)) tk (da_cons ((do_f (ok__law_mixed T) (hr.mono (by decide)) tk (da_cons (de_name 2) (da_cons (de_name 1) da_nil)) (alenS (alenS alen0)))).frz (da_cons de_int da_nil)) (alenS (alenS alen0)))).frz de_int)).rv)))))))
theorem st_ok__law_all_equal {k : Nat} (hk : 0 ≤ k) {f__law_all_equal : List S → M Rv} {f__law_equal : List S → M Rv} (T : Tx K mg) (h__law_all_equal : Okf P w K mg base k "_law_all_equal" ["actual", "due"] f__law_all_equal) (h__law_equal : Okf P w K mg base k "_law_equal" ["actual", "due"] f__law_equal) : Okf P w K mg base (k + 1) "_law_all_equal" ["actual", "due"] (runG 1 (B__law_all_equal f__law_all_equal f__law_equal)) :=
  T.d__law_all_equal.ok sc__law_all_equal 1 rfl fun cdv A outer s H E hr tk po =>
    (dss_cons (dst_for po (di_rng (de_callB len_ok T.z_len bt_len (da_cons (de_name 1) da_nil)) T.z_range) (dg_name 2 sc__law_all_equal.nd) (dss_one (dst_if (dt_not (dt_tru ((do_f h__law_equal hr tk (da_cons (de_ix (de_name 0) (de_name 2)) (da_cons (de_ix (de_name 1) (de_name 2)) da_nil)) (alenS (alenS alen0)))).frz)) (dss_one (dst_ret (de_bl).rv)) dss_nil)))
    (dss_one (dst_ret (de_bl).rv)))
theorem st_ok__law_equal {k : Nat} (hk : 0 ≤ k) {f__law_all_equal : List S → M Rv} {f__law_equal : List S → M Rv} (T : Tx K mg) (h__law_all_equal : Okf P w K mg base k "_law_all_equal" ["actual", "due"] f__law_all_equal) (h__law_equal : Okf P w K mg base k "_law_equal" ["actual", "due"] f__law_equal) : Okf P w K mg base (k + 1) "_law_equal" ["actual", "due"] (runG 0 (B__law_equal f__law_all_equal f__law_equal)) :=
  T.d__law_equal.ok sc__law_equal 0 rfl fun cdv A outer s H E hr tk po =>
    (dss_cons (dst_if (dt_tru (de_isa (de_name 1) T.z_isinstance T.z_list (.inr (.inr (.inr (.inl rfl)))) bt_list)) (dss_cons (dst_if (dw_or (dt_not (dt_tru (de_isa (de_name 0) T.z_isinstance T.z_list (.inr (.inr (.inr (.inl rfl)))) bt_list))) (dw_or1 (dt_cmp (ne_ok hr.units) (de_callB len_ok T.z_len bt_len (da_cons (de_name 0) da_nil)) (de_callB len_ok T.z_len bt_len (da_cons (de_name 1) da_nil))))).dt (dss_one (dst_ret (de_bl).rv)) dss_nil)
      (dss_one (dst_ret (do_f h__law_all_equal hr tk (da_cons (de_name 0) (da_cons (de_name 1) da_nil)) (alenS (alenS alen0)))))) dss_nil)
    (dss_cons (dst_if (dt_tru (de_isa (de_name 1) T.z_isinstance T.z_tuple (.inr (.inr (.inr (.inr (.inl rfl))))) bt_tuple)) (dss_cons (dst_if (dw_or (dt_not (dt_tru (de_isa (de_name 0) T.z_isinstance T.z_tuple (.inr (.inr (.inr (.inr (.inl rfl))))) bt_tuple))) (dw_or1 (dt_cmp (ne_ok hr.units) (de_callB len_ok T.z_len bt_len (da_cons (de_name 0) da_nil)) (de_callB len_ok T.z_len bt_len (da_cons (de_name 1) da_nil))))).dt (dss_one (dst_ret (de_bl).rv)) dss_nil)
      (dss_one (dst_ret (do_f h__law_all_equal hr tk (da_cons (de_name 0) (da_cons (de_name 1) da_nil)) (alenS (alenS alen0)))))) dss_nil)
    (dss_cons (dst_if (dt_tru (de_isa (de_name 1) T.z_isinstance T.z_bool (.inr (.inl rfl)) bt_bool)) (dss_one (dst_ret ((de_and (de_isa (de_name 0) T.z_isinstance T.z_bool (.inr (.inl rfl)) bt_bool) (de_one (de_cmp (eq_ok hr.units) (de_name 0) (de_name 1))))).rv)) dss_nil)
    (dss_cons (dst_if (dt_tru (de_isa (de_name 1) T.z_isinstance T.z_int (.inl rfl) bt_int)) (dss_one (dst_ret ((de_and (de_isa (de_name 0) T.z_isinstance T.z_int (.inl rfl) bt_int) (de_and (de_not (de_isa (de_name 0) T.z_isinstance T.z_bool (.inr (.inl rfl)) bt_bool)) (de_one (de_cmp (eq_ok hr.units) (de_name 0) (de_name 1)))))).rv)) dss_nil)
    (dss_cons (dst_if (dt_tru (de_isa (de_name 1) T.z_isinstance T.z_str (.inr (.inr (.inl rfl))) bt_str)) (dss_one (dst_ret ((de_and (de_isa (de_name 0) T.z_isinstance T.z_str (.inr (.inr (.inl rfl))) bt_str) (de_one (de_cmp (eq_ok hr.units) (de_name 0) (de_name 1))))).rv)) dss_nil)
    (dss_one (dst_ret ((de_isn (de_name 0))).rv)))))))
theorem oks__law_all_equal__law_equal (T : Tx K mg) : ∀ n, Okf P w K mg base (0 + n) "_law_all_equal" ["actual", "due"] (F__law_all_equal n) ∧ Okf P w K mg base (0 + n) "_law_equal" ["actual", "due"] (F__law_equal n)
  | 0 => ⟨T.d__law_all_equal.ok0, T.d__law_equal.ok0⟩
  | n + 1 => have ih := oks__law_all_equal__law_equal T n; ⟨st_ok__law_all_equal (Nat.le_add_right _ _) T ih.1 ih.2, st_ok__law_equal (Nat.le_add_right _ _) T ih.1 ih.2⟩
theorem ok__law_all_equal (T : Tx K mg) (n : Nat) : Okf P w K mg base (0 + n) "_law_all_equal" ["actual", "due"] (F__law_all_equal n) := (oks__law_all_equal__law_equal T n).1
theorem ok__law_equal (T : Tx K mg) (n : Nat) : Okf P w K mg base (0 + n) "_law_equal" ["actual", "due"] (F__law_equal n) := (oks__law_all_equal__law_equal T n).2
theorem st_ok__law_any_pay {k : Nat} (hk : 2 ≤ k) {f__law_any_pay : List S → M Rv} (T : Tx K mg) (h__law_any_pay : Okf P w K mg base k "_law_any_pay" ["draws", "depth"] f__law_any_pay) : Okf P w K mg base (k + 1) "_law_any_pay" ["draws", "depth"] (runG 5 (B__law_any_pay f__law_any_pay)) :=
  T.d__law_any_pay.ok sc__law_any_pay 5 rfl fun cdv A outer s H E hr tk po =>
    (dss_cons (dst_set 2 sc__law_any_pay.nd (de_op mod_ok ((do_fC (ok__law_draw T) (hr.mono (by omega)) tk (da_cons (de_name 0) da_nil) (alenS alen0))).frz de_int))
    (dss_cons (dst_set 3 sc__law_any_pay.nd (de_ix ((do_lst (da_cons de_int (da_cons de_int (da_cons de_int (da_cons de_int (da_cons de_int (da_cons de_int (da_cons de_int (da_cons (de_op pow_ok de_int de_int) (da_cons (de_op pow_ok de_int de_int) da_nil))))))))))).frz (de_op mod_ok ((do_fC (ok__law_draw T) (hr.mono (by omega)) tk (da_cons (de_name 0) da_nil) (alenS alen0))).frz de_int)))
    (dss_cons (dst_if (dw_or (dt_cmp lt_ok (de_name 2) de_int) (dw_or1 (dt_cmp (eq_ok hr.units) (de_name 1) de_int))).dt (dss_one (dst_ret ((de_ix ((do_lst (da_cons de_str (da_cons de_str (da_cons de_str (da_cons (de_name 3) (da_cons (de_name 3) da_nil))))))).frz (de_op mod_ok ((do_fC (ok__law_draw T) (hr.mono (by omega)) tk (da_cons (de_name 0) da_nil) (alenS alen0))).frz de_int))).rv)) dss_nil)
    (dss_cons (dst_set 4 sc__law_any_pay.nd ((do_fC h__law_any_pay hr tk (da_cons (de_name 0) (da_cons (de_op sub_ok (de_name 1) de_int) da_nil)) (alenS (alenS alen0)))).frz)
    (dss_cons (dst_if (dt_cmp (eq_ok hr.units) (de_name 2) de_int) (dss_one (dst_ret ((de_tup (da_cons de_str (da_cons (de_ix ((do_lst (da_cons de_int (da_cons de_int (da_cons de_int (da_cons de_int (da_cons de_int da_nil))))))).frz (de_op mod_ok ((do_fC (ok__law_draw T) (hr.mono (by omega)) tk (da_cons (de_name 0) da_nil) (alenS alen0))).frz de_int)) (da_cons (de_name 4) da_nil))))).rv)) dss_nil)
    (dss_cons (dst_if (dt_cmp (eq_ok hr.units) (de_name 2) de_int) (dss_one (dst_ret ((de_tup (da_cons de_str (da_cons (de_name 4) (da_cons (de_name 3) (da_cons (de_ix ((do_lst (da_cons de_int (da_cons de_int (da_cons de_int (da_cons de_int da_nil)))))).frz (de_op mod_ok ((do_fC (ok__law_draw T) (hr.mono (by omega)) tk (da_cons (de_name 0) da_nil) (alenS alen0))).frz de_int)) da_nil)))))).rv)) dss_nil)
    (dss_cons (dst_set 5 sc__law_any_pay.nd ((do_fC h__law_any_pay hr tk (da_cons (de_name 0) (da_cons (de_op sub_ok (de_name 1) de_int) da_nil)) (alenS (alenS alen0)))).frz)
    (dss_cons (dst_if (dt_cmp (eq_ok hr.units) (de_name 2) de_int) (dss_cons (dst_set 6 sc__law_any_pay.nd (de_ix ((do_lst (da_cons de_int (da_cons de_int (da_cons de_int (da_cons de_int (da_cons de_int da_nil))))))).frz (de_op mod_ok ((do_fC (ok__law_draw T) (hr.mono (by omega)) tk (da_cons (de_name 0) da_nil) (alenS alen0))).frz de_int)))
      (dss_one (dst_ret ((de_tup (da_cons de_str (da_cons (de_name 6) (da_cons (de_op add_ok (de_name 6) (de_ix ((do_lst (da_cons de_int (da_cons de_int (da_cons de_int (da_cons (de_op pow_ok de_int de_int) da_nil)))))).frz (de_op mod_ok ((do_fC (ok__law_draw T) (hr.mono (by omega)) tk (da_cons (de_name 0) da_nil) (alenS alen0))).frz de_int))) (da_cons (de_name 4) (da_cons (de_name 5) da_nil))))))).rv))) dss_nil)
    (dss_one (dst_ret ((de_tup (da_cons (de_ix ((do_lst (da_cons de_str (da_cons de_str (da_cons de_str (da_cons de_str da_nil)))))).frz (de_op mod_ok (de_name 2) de_int)) (da_cons (de_name 4) (da_cons (de_name 5) da_nil))))).rv))))))))))
theorem ok__law_any_pay (T : Tx K mg) : ∀ n, Okf P w K mg base (2 + n) "_law_any_pay" ["draws", "depth"] (F__law_any_pay n)
  | 0 => T.d__law_any_pay.ok0
  | n + 1 => st_ok__law_any_pay (Nat.le_add_right _ _) T (ok__law_any_pay T n)
theorem ok__law_at (T : Tx K mg) : Okf P w K mg base 1 "_law_at" ["rows", "size"] F__law_at :=
  T.d__law_at.ok sc__law_at 3 rfl fun cdv A outer s H E hr tk po =>
    (dss_cons (dst_for po (di_any (de_rev (de_name 0))) (dg_tup 3 (dgs_cons (dg_name 2 sc__law_at.nd) (dgs_cons (dg_name 3 sc__law_at.nd) (dgs_cons (dg_name 4 sc__law_at.nd) dgs_nil))) (gts_lenS (gts_lenS (gts_lenS gts_len0)))) (dss_one (dst_if (dt_cmp le_ok (de_name 2) (de_name 1)) (dss_one (dst_ret ((de_tup (da_cons (de_op add_ok (de_name 3) (de_op mul_ok (de_name 4) (de_op sub_ok (de_name 1) (de_name 2)))) (da_cons (de_name 4) da_nil)))).rv)) dss_nil)))
    (dss_one (dst_ret ((de_tup (da_cons de_int (da_cons de_int da_nil)))).rv)))
theorem ok__law_joined (T : Tx K mg) : Okf P w K mg base 2 "_law_joined" ["word", "one", "two"] F__law_joined :=
  T.d__law_joined.ok sc__law_joined 12 rfl fun cdv A outer s H E hr tk po =>
    (dss_cons (dst_set 3 sc__law_joined.nd (de_sortedSet T.z_sorted T.z_set (de_op add_ok ((do_lc [("row", 14)] sc__law_joined.nd (di_any (de_name 1)) (fun _ _ _ _ _ => (dgb_name 14 sc__law_joined.nd)) (fun _ _ _ _ _ => dts_nil) (fun _ _ _ _ _ => (de_ix (de_name 14) de_int)))).frz ((do_lc [("row", 14)] sc__law_joined.nd (di_any (de_name 2)) (fun _ _ _ _ _ => (dgb_name 14 sc__law_joined.nd)) (fun _ _ _ _ _ => dts_nil) (fun _ _ _ _ _ => (de_ix (de_name 14) de_int)))).frz)))
    (dss_cons (dst_new 4 sc__law_joined.nd (do_lst da_nil))
    (dss_cons (dst_for po (di_rng (de_callB len_ok T.z_len bt_len (da_cons (de_name 3) da_nil)) T.z_range) (dg_name 5 sc__law_joined.nd) (dss_cons (dst_set 6 sc__law_joined.nd (de_ix (de_name 3) (de_name 5)))
      (dss_cons (dst_set 7 sc__law_joined.nd (de_if (dt_cmp lt_ok (de_op add_ok (de_name 5) de_int) (de_callB len_ok T.z_len bt_len (da_cons (de_name 3) da_nil))) (de_op sub_ok (de_ix (de_name 3) (de_op add_ok (de_name 5) de_int)) de_int) (de_op pow_ok de_int de_int)))
      (dss_cons (dst_tgt ((do_f (ok__law_at T) (hr.mono (by decide)) tk (da_cons (de_name 1) (da_cons (de_name 6) da_nil)) (alenS (alenS alen0)))).frz (dg_tup 2 (dgs_cons (dg_name 8 sc__law_joined.nd) (dgs_cons (dg_name 9 sc__law_joined.nd) dgs_nil)) (gts_lenS (gts_lenS gts_len0))))
      (dss_cons (dst_tgt ((do_f (ok__law_at T) (hr.mono (by decide)) tk (da_cons (de_name 2) (da_cons (de_name 6) da_nil)) (alenS (alenS alen0)))).frz (dg_tup 2 (dgs_cons (dg_name 10 sc__law_joined.nd) (dgs_cons (dg_name 11 sc__law_joined.nd) dgs_nil)) (gts_lenS (gts_lenS gts_len0))))
      (dss_one (dst_if (dt_cmp (eq_ok hr.units) (de_name 0) de_str) (dss_one (dst_exp (de_mt PySem.F.slot_list_append PySem.F.type_list_append app_ok (de_name 4) (da_cons (de_tup (da_cons (de_name 6) (da_cons (de_op add_ok (de_name 8) (de_name 10)) (da_cons (de_op add_ok (de_name 9) (de_name 11)) da_nil)))) da_nil)))) (dss_one (dst_if (dt_cmp (eq_ok hr.units) (de_name 0) de_str) (dss_one (dst_exp (de_mt PySem.F.slot_list_append PySem.F.type_list_append app_ok (de_name 4) (da_cons (de_tup (da_cons (de_name 6) (da_cons (de_op sub_ok (de_name 8) (de_name 10)) (da_cons (de_op sub_ok (de_name 9) (de_name 11)) da_nil)))) da_nil)))) (dss_cons (dst_set 12 sc__law_joined.nd (de_if (dt_cmp (eq_ok hr.units) (de_name 0) de_str) de_int (de_neg de_int)))
          (dss_cons (dst_if (dw_or (dt_cmp gt_ok (de_op mul_ok (de_name 12) (de_op sub_ok (de_name 8) (de_name 10))) de_int) (dw_or1 (dw_and (dt_cmp (eq_ok hr.units) (de_name 8) (de_name 10)) (dw_and1 (dt_cmp gt_ok (de_op mul_ok (de_name 12) (de_op sub_ok (de_name 9) (de_name 11))) de_int))).dt)).dt (dss_one (dst_tgt (de_tup (da_cons (de_name 10) (da_cons (de_name 11) (da_cons (de_name 8) (da_cons (de_name 9) da_nil))))) (dg_tup 4 (dgs_cons (dg_name 8 sc__law_joined.nd) (dgs_cons (dg_name 9 sc__law_joined.nd) (dgs_cons (dg_name 10 sc__law_joined.nd) (dgs_cons (dg_name 11 sc__law_joined.nd) dgs_nil)))) (gts_lenS (gts_lenS (gts_lenS (gts_lenS gts_len0))))))) dss_nil)
          (dss_cons (dst_exp (de_mt PySem.F.slot_list_append PySem.F.type_list_append app_ok (de_name 4) (da_cons (de_tup (da_cons (de_name 6) (da_cons (de_name 8) (da_cons (de_name 9) da_nil)))) da_nil)))
          (dss_one (dst_if (dt_cmp gt_ok (de_op mul_ok (de_name 12) (de_op sub_ok (de_name 9) (de_name 11))) de_int) (dss_cons (dst_set 13 sc__law_joined.nd (de_op add_ok (de_op add_ok (de_name 6) (de_op fdiv_ok (de_op mul_ok (de_name 12) (de_op sub_ok (de_name 10) (de_name 8))) (de_op mul_ok (de_name 12) (de_op sub_ok (de_name 9) (de_name 11))))) de_int))
            (dss_one (dst_if (dt_cmp le_ok (de_name 13) (de_name 7)) (dss_one (dst_exp (de_mt PySem.F.slot_list_append PySem.F.type_list_append app_ok (de_name 4) (da_cons (de_tup (da_cons (de_name 13) (da_cons (de_op add_ok (de_name 10) (de_op mul_ok (de_name 11) (de_op sub_ok (de_name 13) (de_name 6)))) (da_cons (de_name 11) da_nil)))) da_nil)))) dss_nil))) dss_nil))))))))))))))
    (dss_one (dst_ret ((de_name 4)).rv)))))
theorem ok__law_chosen (T : Tx K mg) : Okf P w K mg base 2 "_law_chosen" ["low", "high", "one", "two"] F__law_chosen :=
  T.d__law_chosen.ok sc__law_chosen 3 rfl fun cdv A outer s H E hr tk po =>
    (dss_cons (dst_set 4 sc__law_chosen.nd (de_sortedSet T.z_sorted T.z_set (de_op add_ok (de_op add_ok ((do_lc [("row", 5)] sc__law_chosen.nd (di_any (de_name 2)) (fun _ _ _ _ _ => (dgb_name 5 sc__law_chosen.nd)) (fun _ _ _ _ _ => dts_nil) (fun _ _ _ _ _ => (de_ix (de_name 5) de_int)))).frz ((do_lc [("row", 5)] sc__law_chosen.nd (di_any (de_name 3)) (fun _ _ _ _ _ => (dgb_name 5 sc__law_chosen.nd)) (fun _ _ _ _ _ => dts_nil) (fun _ _ _ _ _ => (de_ix (de_name 5) de_int)))).frz) ((do_lst (da_cons (de_name 0) (da_cons (de_op add_ok (de_name 1) de_int) da_nil)))).frz)))
    (dss_one (dst_ret (do_lc [("s", 6)] sc__law_chosen.nd (di_any (de_name 4)) (fun _ _ _ _ _ => (dgb_name 6 sc__law_chosen.nd)) (fun _ _ _ _ _ => (dts_one (dt_cmp le_ok (de_name 6) (de_op pow_ok de_int de_int)))) (fun _ _ _ _ _ => (de_op add_ok (de_tup (da_cons (de_name 6) da_nil)) ((do_f (ok__law_at T) (hr.mono (by decide)) takesWf (da_cons (de_if (dt_chn le_ok le_ok (de_name 0) (de_name 6) (de_name 1)) (de_name 2) (de_name 3)) (da_cons (de_name 6) da_nil)) (alenS (alenS alen0)))).frz))))))
theorem ok__law_ends (T : Tx K mg) : Okf P w K mg base 1 "_law_ends" ["rows"] F__law_ends :=
  T.d__law_ends.ok sc__law_ends 6 rfl fun cdv A outer s H E hr tk po =>
    (dss_cons (dst_new 1 sc__law_ends.nd (do_lst da_nil))
    (dss_cons (dst_for po (di_rng (de_callB len_ok T.z_len bt_len (da_cons (de_name 0) da_nil)) T.z_range) (dg_name 2 sc__law_ends.nd) (dss_cons (dst_tgt (de_ix (de_name 0) (de_name 2)) (dg_tup 3 (dgs_cons (dg_name 3 sc__law_ends.nd) (dgs_cons (dg_name 4 sc__law_ends.nd) (dgs_cons (dg_name 5 sc__law_ends.nd) dgs_nil))) (gts_lenS (gts_lenS (gts_lenS gts_len0)))))
      (dss_cons (dst_set 6 sc__law_ends.nd (de_if (dt_cmp lt_ok (de_op add_ok (de_name 2) de_int) (de_callB len_ok T.z_len bt_len (da_cons (de_name 0) da_nil))) (de_op sub_ok (de_ix (de_ix (de_name 0) (de_op add_ok (de_name 2) de_int)) de_int) de_int) (de_op pow_ok de_int de_int)))
      (dss_one (dst_exp (de_mt PySem.F.slot_list_append PySem.F.type_list_append app_ok (de_name 1) (da_cons (de_tup (da_cons (de_name 3) (da_cons (de_name 4) (da_cons (de_op add_ok (de_name 4) (de_op mul_ok (de_name 5) (de_op sub_ok (de_name 6) (de_name 3)))) da_nil)))) da_nil)))))))
    (dss_one (dst_ret ((de_name 1)).rv))))
theorem st_ok__law_pieces {k : Nat} (hk : 2 ≤ k) {f__law_pieces : List S → M Rv} (T : Tx K mg) (h__law_pieces : Okf P w K mg base k "_law_pieces" ["expression", "insured"] f__law_pieces) : Okf P w K mg base (k + 1) "_law_pieces" ["expression", "insured"] (runG 8 (B__law_pieces f__law_pieces)) :=
  T.d__law_pieces.ok sc__law_pieces 8 rfl fun cdv A outer s H E hr tk po =>
    (dss_cons (dst_if (dt_cmp (eq_ok hr.units) (de_name 0) de_str) (dss_one (dst_set 2 sc__law_pieces.nd ((do_lst (da_cons (de_tup (da_cons de_int (da_cons de_int (da_cons de_int da_nil)))) da_nil))).frz)) (dss_one (dst_if (dt_cmp (eq_ok hr.units) (de_name 0) de_str) (dss_one (dst_set 2 sc__law_pieces.nd ((do_lst (da_cons (de_tup (da_cons de_int (da_cons (de_name 1) (da_cons de_int da_nil)))) da_nil))).frz)) (dss_one (dst_if (dt_tru (de_isa (de_name 0) T.z_isinstance T.z_int (.inl rfl) bt_int)) (dss_one (dst_set 2 sc__law_pieces.nd ((do_lst (da_cons (de_tup (da_cons de_int (da_cons (de_name 0) (da_cons de_int da_nil)))) da_nil))).frz)) (dss_one (dst_if (dt_cmp (eq_ok hr.units) (de_ix (de_name 0) de_int) de_str) (dss_cons (dst_set 3 sc__law_pieces.nd ((do_f h__law_pieces hr tk (da_cons (de_ix (de_name 0) de_int) (da_cons (de_name 1) da_nil)) (alenS (alenS alen0)))).frz)
            (dss_one (dst_set 2 sc__law_pieces.nd (de_if (dt_isn (de_name 3)) de_non ((do_lc [("s", 6), ("a", 7), ("p", 8)] sc__law_pieces.nd (di_any (de_name 3)) (fun _ _ _ _ _ => (dgb_tup 3 (dgbs_cons (dgb_name 6 sc__law_pieces.nd) (dgbs_cons (dgb_name 7 sc__law_pieces.nd) (dgbs_cons (dgb_name 8 sc__law_pieces.nd) dgbs_nil))) (gts_lenS (gts_lenS (gts_lenS gts_len0))))) (fun _ _ _ _ _ => dts_nil) (fun _ _ _ _ _ => (de_tup (da_cons (de_name 6) (da_cons (de_op mul_ok (de_ix (de_name 0) de_int) (de_name 7)) (da_cons (de_op mul_ok (de_ix (de_name 0) de_int) (de_name 8)) da_nil))))))).frz)))) (dss_one (dst_if (dt_cmp (eq_ok hr.units) (de_ix (de_name 0) de_int) de_str) (dss_cons (dst_set 3 sc__law_pieces.nd ((do_f h__law_pieces hr tk (da_cons (de_ix (de_name 0) de_int) (da_cons (de_name 1) da_nil)) (alenS (alenS alen0)))).frz)
              (dss_cons (dst_set 2 sc__law_pieces.nd de_non)
              (dss_one (dst_if (dt_isnn (de_name 3)) (dss_cons (dst_set 4 sc__law_pieces.nd ((do_f (ok__law_joined T) (hr.mono (by omega)) tk (da_cons de_str (da_cons ((do_lc [("s", 6), ("a", 7), ("p", 8)] sc__law_pieces.nd (di_any (de_name 3)) (fun _ _ _ _ _ => (dgb_tup 3 (dgbs_cons (dgb_name 6 sc__law_pieces.nd) (dgbs_cons (dgb_name 7 sc__law_pieces.nd) (dgbs_cons (dgb_name 8 sc__law_pieces.nd) dgbs_nil))) (gts_lenS (gts_lenS (gts_lenS gts_len0))))) (fun _ _ _ _ _ => dts_nil) (fun _ _ _ _ _ => (de_tup (da_cons (de_name 6) (da_cons (de_op sub_ok (de_name 7) (de_ix (de_name 0) de_int)) (da_cons (de_name 8) da_nil))))))).frz (da_cons ((do_lst (da_cons (de_tup (da_cons de_int (da_cons de_int (da_cons de_int da_nil)))) da_nil))).frz da_nil))) (alenS (alenS (alenS alen0))))).frz)
                (dss_one (dst_set 2 sc__law_pieces.nd ((do_f (ok__law_joined T) (hr.mono (by omega)) tk (da_cons de_str (da_cons (de_name 4) (da_cons ((do_lst (da_cons (de_tup (da_cons de_int (da_cons (de_ix (de_name 0) de_int) (da_cons de_int da_nil)))) da_nil))).frz da_nil))) (alenS (alenS (alenS alen0))))).frz))) dss_nil)))) (dss_one (dst_if (dt_cmp (eq_ok hr.units) (de_ix (de_name 0) de_int) de_str) (dss_cons (dst_set 3 sc__law_pieces.nd ((do_f h__law_pieces hr tk (da_cons (de_ix (de_name 0) de_int) (da_cons (de_name 1) da_nil)) (alenS (alenS alen0)))).frz)
                (dss_cons (dst_set 5 sc__law_pieces.nd ((do_f h__law_pieces hr tk (da_cons (de_ix (de_name 0) de_int) (da_cons (de_name 1) da_nil)) (alenS (alenS alen0)))).frz)
                (dss_one (dst_set 2 sc__law_pieces.nd (de_if (dw_or (dt_isn (de_name 3)) (dw_or1 (dt_isn (de_name 5)))).dt de_non ((do_f (ok__law_chosen T) (hr.mono (by omega)) tk (da_cons (de_ix (de_name 0) de_int) (da_cons (de_ix (de_name 0) de_int) (da_cons (de_name 3) (da_cons (de_name 5) da_nil)))) (alenS (alenS (alenS (alenS alen0)))))).frz))))) (dss_cons (dst_set 3 sc__law_pieces.nd ((do_f h__law_pieces hr tk (da_cons (de_ix (de_name 0) de_int) (da_cons (de_name 1) da_nil)) (alenS (alenS alen0)))).frz)
                (dss_cons (dst_set 5 sc__law_pieces.nd ((do_f h__law_pieces hr tk (da_cons (de_ix (de_name 0) de_int) (da_cons (de_name 1) da_nil)) (alenS (alenS alen0)))).frz)
                (dss_one (dst_set 2 sc__law_pieces.nd (de_if (dw_or (dt_isn (de_name 3)) (dw_or1 (dt_isn (de_name 5)))).dt de_non ((do_f (ok__law_joined T) (hr.mono (by omega)) tk (da_cons (de_ix (de_name 0) de_int) (da_cons (de_name 3) (da_cons (de_name 5) da_nil))) (alenS (alenS (alenS alen0))))).frz))))))))))))))))
    (dss_cons (dst_if (dw_or (dt_isn (de_name 2)) (dw_or1 (dt_cmp gt_ok (de_callB len_ok T.z_len bt_len (da_cons ((do_lc [("row", 9)] sc__law_pieces.nd (di_any ((do_f (ok__law_ends T) (hr.mono (by omega)) tk (da_cons (de_name 2) da_nil) (alenS alen0))).frz) (fun _ _ _ _ _ => (dgb_name 9 sc__law_pieces.nd)) (fun _ _ _ _ _ => (dts_one (dw_or (dt_cmp gt_ok (de_callB abs_ok T.z_abs bt_abs (da_cons (de_ix (de_name 9) de_int) da_nil)) (de_op pow_ok de_int de_int)) (dw_or1 (dt_cmp gt_ok (de_callB abs_ok T.z_abs bt_abs (da_cons (de_ix (de_name 9) de_int) da_nil)) (de_op pow_ok de_int de_int)))).dt)) (fun _ _ _ _ _ => (de_name 9)))).frz da_nil)) de_int))).dt (dss_one (dst_ret (de_non).rv)) dss_nil)
    (dss_one (dst_ret ((de_name 2)).rv))))
theorem ok__law_pieces (T : Tx K mg) : ∀ n, Okf P w K mg base (2 + n) "_law_pieces" ["expression", "insured"] (F__law_pieces n)
  | 0 => T.d__law_pieces.ok0
  | n + 1 => st_ok__law_pieces (Nat.le_add_right _ _) T (ok__law_pieces T n)
theorem ok__law_rises (T : Tx K mg) : Okf P w K mg base 2 "_law_rises" ["rows"] F__law_rises :=
  T.d__law_rises.ok sc__law_rises 3 rfl fun cdv A outer s H E hr tk po =>
    (dss_cons (dst_set 1 sc__law_rises.nd ((do_f (ok__law_ends T) (hr.mono (by decide)) tk (da_cons (de_name 0) da_nil) (alenS alen0))).frz)
    (dss_cons (dst_if (dt_cmp (ne_ok hr.units) (de_ix (de_ix (de_name 1) de_int) de_int) de_int) (dss_one (dst_ret (de_bl).rv)) dss_nil)
    (dss_cons (dst_for po (di_rng (de_callB len_ok T.z_len bt_len (da_cons (de_name 0) da_nil)) T.z_range) (dg_name 2 sc__law_rises.nd) (dss_cons (dst_set 3 sc__law_rises.nd (de_if (dt_cmp lt_ok (de_op add_ok (de_name 2) de_int) (de_callB len_ok T.z_len bt_len (da_cons (de_name 0) da_nil))) (de_op sub_ok (de_ix (de_ix (de_name 0) (de_op add_ok (de_name 2) de_int)) de_int) de_int) (de_op pow_ok de_int de_int)))
      (dss_cons (dst_if (dw_and (dt_cmp gt_ok (de_name 3) (de_ix (de_ix (de_name 0) (de_name 2)) de_int)) (dw_and1 (dt_cmp (nin_ok (hu65 hr)) (de_ix (de_ix (de_name 0) (de_name 2)) de_int) ((do_lst (da_cons de_int (da_cons de_int da_nil)))).frz))).dt (dss_one (dst_ret (de_bl).rv)) dss_nil)
      (dss_one (dst_if (dw_and (dt_cmp gt_ok (de_name 2) de_int) (dw_and1 (dt_cmp (nin_ok (hu65 hr)) (de_op sub_ok (de_ix (de_ix (de_name 1) (de_name 2)) de_int) (de_ix (de_ix (de_name 1) (de_op sub_ok (de_name 2) de_int)) de_int)) ((do_lst (da_cons de_int (da_cons de_int da_nil)))).frz))).dt (dss_one (dst_ret (de_bl).rv)) dss_nil)))))
    (dss_one (dst_ret (de_bl).rv)))))
theorem ok__law_told (T : Tx K mg) : Okf P w K mg base 66 "_law_told" ["words"] (F__law_told K) :=
  T.d__law_told.ok sc__law_told 1 rfl fun cdv A outer s H E hr tk po =>
    (dss_cons (dst_try 1 sc__law_told.nd tk ⟨rfl, by decide, .inl T.x_WhatbefellError.g⟩ (ex_sub_WhatbefellError T) (fun _ _ _ tk po => (dss_one (dst_exp ((do_f (ok_check_words T) (hr.mono (by decide)) tk (da_cons (de_name 0) da_nil) (alenS alen0))).frz))) (fun a oe cls pn c kn ec hz hf => by
      obtain ⟨rfl, hE⟩ := ex_cls T c cls kn ec
      exact (dss_one (dst_ret ((de_if (dt_tru (de_isE 1 hE hz hf (ex_kit_BadWords T c kn) T.z_isinstance T.x_BadWords.g)) de_bl de_non)).rv))))
    (dss_one (dst_ret (de_bl).rv)))
theorem st_ok__law_soft {k : Nat} (hk : 2 ≤ k) {f__law_soft : List S → M Rv} (T : Tx K mg) (h__law_soft : Okf P w K mg base k "_law_soft" ["draws", "depth"] f__law_soft) : Okf P w K mg base (k + 1) "_law_soft" ["draws", "depth"] (runG 5 (B__law_soft f__law_soft)) :=
  T.d__law_soft.ok sc__law_soft 5 rfl fun cdv A outer s H E hr tk po =>
    (dss_cons (dst_set 2 sc__law_soft.nd (de_ix ((do_lst (da_cons de_int (da_cons de_int (da_cons de_int (da_cons de_int (da_cons de_int (da_cons (de_op pow_ok de_int de_int) da_nil)))))))).frz (de_op mod_ok ((do_fC (ok__law_draw T) (hr.mono (by omega)) tk (da_cons (de_name 0) da_nil) (alenS alen0))).frz de_int)))
    (dss_cons (dst_set 3 sc__law_soft.nd (de_ix ((do_lst (da_cons de_int (da_cons de_int (da_cons de_int (da_cons de_int (da_cons de_int da_nil))))))).frz (de_op mod_ok ((do_fC (ok__law_draw T) (hr.mono (by omega)) tk (da_cons (de_name 0) da_nil) (alenS alen0))).frz de_int)))
    (dss_cons (dst_if (dt_cmp (eq_ok hr.units) (de_name 1) de_int) (dss_one (dst_ret ((de_ix ((do_lst (da_cons de_str (da_cons (de_tup (da_cons de_str (da_cons de_str (da_cons (de_name 2) (da_cons (de_name 3) da_nil))))) (da_cons (de_tup (da_cons de_str (da_cons de_str (da_cons de_str da_nil)))) (da_cons (de_tup (da_cons de_str (da_cons de_str (da_cons (de_tup (da_cons de_str (da_cons de_str (da_cons (de_name 2) (da_cons (de_name 3) da_nil))))) da_nil)))) da_nil)))))).frz (de_op mod_ok ((do_fC (ok__law_draw T) (hr.mono (by omega)) tk (da_cons (de_name 0) da_nil) (alenS alen0))).frz de_int))).rv)) dss_nil)
    (dss_cons (dst_set 4 sc__law_soft.nd ((do_fC h__law_soft hr tk (da_cons (de_name 0) (da_cons (de_op sub_ok (de_name 1) de_int) da_nil)) (alenS (alenS alen0)))).frz)
    (dss_cons (dst_set 5 sc__law_soft.nd ((do_fC h__law_soft hr tk (da_cons (de_name 0) (da_cons (de_op sub_ok (de_name 1) de_int) da_nil)) (alenS (alenS alen0)))).frz)
    (dss_cons (dst_set 6 sc__law_soft.nd (de_op mod_ok ((do_fC (ok__law_draw T) (hr.mono (by omega)) tk (da_cons (de_name 0) da_nil) (alenS alen0))).frz de_int))
    (dss_cons (dst_if (dt_cmp lt_ok (de_name 6) de_int) (dss_one (dst_ret ((de_tup (da_cons (de_ix ((do_lst (da_cons de_str (da_cons de_str da_nil)))).frz (de_name 6)) (da_cons (de_name 4) (da_cons (de_name 5) da_nil))))).rv)) dss_nil)
    (dss_cons (dst_if (dt_cmp (eq_ok hr.units) (de_name 6) de_int) (dss_one (dst_ret ((de_tup (da_cons de_str (da_cons (de_name 4) (da_cons (de_name 2) (da_cons (de_name 3) da_nil)))))).rv)) dss_nil)
    (dss_cons (dst_if (dt_cmp (eq_ok hr.units) (de_name 6) de_int) (dss_one (dst_ret ((de_tup (da_cons de_str (da_cons (de_tup (da_cons de_str (da_cons (de_name 4) (da_cons (de_name 2) (da_cons de_int da_nil))))) (da_cons (de_tup (da_cons de_str (da_cons (de_name 5) (da_cons (de_name 2) (da_cons (de_op add_ok (de_name 2) (de_name 3)) da_nil))))) da_nil))))).rv)) dss_nil)
    (dss_cons (dst_if (dt_cmp (eq_ok hr.units) (de_name 6) de_int) (dss_one (dst_ret ((de_tup (da_cons de_str (da_cons de_int (da_cons (de_name 2) (da_cons (de_name 4) (da_cons (de_tup (da_cons de_str (da_cons (de_tup (da_cons de_str (da_cons (de_name 4) (da_cons (de_name 2) (da_cons de_int da_nil))))) (da_cons (de_tup (da_cons de_str (da_cons de_str (da_cons (de_op pow_ok de_int de_int) (da_cons (de_name 2) da_nil))))) da_nil)))) da_nil))))))).rv)) dss_nil)
    (dss_cons (dst_if (dt_cmp (eq_ok hr.units) (de_name 6) de_int) (dss_one (dst_ret ((de_tup (da_cons de_str (da_cons (de_name 4) (da_cons (de_tup (da_cons de_str (da_cons (de_name 4) (da_cons (de_name 2) (da_cons (de_name 3) da_nil))))) da_nil))))).rv)) dss_nil)
    (dss_cons (dst_if (dt_cmp (eq_ok hr.units) (de_name 6) de_int) (dss_one (dst_ret ((de_tup (da_cons de_str (da_cons de_int (da_cons (de_name 3) (da_cons de_int (da_cons (de_tup (da_cons de_str (da_cons (de_tup (da_cons de_str (da_cons de_str (da_cons (de_name 3) da_nil)))) (da_cons de_int da_nil)))) da_nil))))))).rv)) dss_nil)
    (dss_one (dst_ret ((de_tup (da_cons de_str (da_cons (de_tup (da_cons de_str (da_cons (de_tup (da_cons de_str (da_cons (de_name 4) (da_cons (de_name 5) da_nil)))) (da_cons de_str da_nil)))) (da_cons de_int da_nil))))).rv))))))))))))))
theorem ok__law_soft (T : Tx K mg) : ∀ n, Okf P w K mg base (2 + n) "_law_soft" ["draws", "depth"] (F__law_soft n)
  | 0 => T.d__law_soft.ok0
  | n + 1 => st_ok__law_soft (Nat.le_add_right _ _) T (ok__law_soft T n)
theorem law_fn {fd : FuncData} (T : Tx K mg) (Fd : FunD K "law" "law" (defArgs st_law) (defBody st_law) (defScope st_law) [] [] (He.ga K "law") fd) : FnOk P w K mg base (L2.CX P w) 67 (He.ga K "law") fd ["script"] (spE mg 1 (F_law K)) :=
  def_ok Fd sc_law 12 rfl fun cdv A outer s H E hr tk po =>
    (dss_cons (dst_new 1 sc_law.nd (do_lst (da_cons ((do_f (ok__law_numbers T) (hr.mono (by decide)) tk (da_cons (de_name 0) da_nil) (alenS alen0))).frz (da_cons de_int da_nil))))
    (dss_cons (dst_for po (di_rng de_int T.z_range) (dg_name 2 sc_law.nd) (dss_cons (dst_set 3 sc_law.nd ((do_fC (ok__law_soft T 12) (hr.mono (by decide)) tk (da_cons (de_name 1) (da_cons (de_op mod_ok (de_name 2) de_int) da_nil)) (alenS (alenS alen0)))).frz)
      (dss_cons (dst_if (dt_cmp (eq_ok hr.units) (de_op mod_ok (de_name 2) de_int) de_int) (dss_one (dst_set 3 sc_law.nd ((do_fC (ok__law_any_pay T 12) (hr.mono (by decide)) tk (da_cons (de_name 1) (da_cons (de_op add_ok de_int (de_op mod_ok ((do_fC (ok__law_draw T) (hr.mono (by decide)) tk (da_cons (de_name 1) da_nil) (alenS alen0))).frz de_int)) da_nil)) (alenS (alenS alen0)))).frz)) dss_nil)
      (dss_cons (dst_set 4 sc_law.nd ((do_lc [("k", 10)] sc_law.nd (di_rng (de_op add_ok de_int (de_op mod_ok ((do_fC (ok__law_draw T) (hr.mono (by decide)) tk (da_cons (de_name 1) da_nil) (alenS alen0))).frz de_int)) T.z_range) (fun _ _ _ _ _ => (dgb_name 10 sc_law.nd)) (fun _ _ _ _ _ => dts_nil) (fun _ _ _ _ _ => (de_ix ((do_lst (da_cons de_int (da_cons de_int (da_cons de_int (da_cons (de_op pow_ok de_int de_int) da_nil)))))).frz (de_op mod_ok ((do_fC (ok__law_draw T) (hr.mono (by decide)) takesWf (da_cons (de_name 1) da_nil) (alenS alen0))).frz de_int))))).frz)
      (dss_cons (dst_setLc 5 [("insured", 11)] sc_law.nd (di_any (de_name 4)) (fun _ _ _ _ _ => (dgb_name 11 sc_law.nd)) (fun _ _ _ _ _ => dts_nil) (fun _ _ _ _ _ => ((do_f (ok__law_pieces T 30) (hr.mono (by decide)) takesWf (da_cons (de_name 3) (da_cons (de_name 11) da_nil)) (alenS (alenS alen0)))).frz))
      (dss_cons (dst_set 6 sc_law.nd (de_and (de_cmp (nin_ok (hu65 hr)) de_non (de_name 5)) (de_one (de_cmp (nin_ok (hu65 hr)) de_bl ((do_lc [("one", 12)] sc_law.nd (di_any (de_name 5)) (fun _ _ _ _ _ => (dgb_name 12 sc_law.nd)) (fun _ _ _ _ _ => dts_nil) (fun _ _ _ _ _ => ((do_f (ok__law_rises T) (hr.mono (by decide)) takesWf (da_cons (de_name 12) da_nil) (alenS alen0))).frz))).frz))))
      (dss_cons (dst_set 7 sc_law.nd (de_sl (de_tup (da_cons (de_tup (da_cons (de_tup (da_cons de_str da_nil)) (da_cons de_str da_nil))) (da_cons (de_tup (da_cons (de_tup (da_cons de_str (da_cons de_str da_nil))) (da_cons (de_name 3) da_nil))) da_nil))) (dpo_some (de_op mod_ok ((do_fC (ok__law_draw T) (hr.mono (by decide)) tk (da_cons (de_name 1) da_nil) (alenS alen0))).frz de_int)) dpo_none))
      (dss_cons (dst_set 8 sc_law.nd (de_tup (da_cons de_str (da_cons (de_name 7) (da_cons (de_callT tuple_ok T.z_tuple bt_tuple (da_cons ((do_lc [("k", 10)] sc_law.nd (di_rng (de_callB len_ok T.z_len bt_len (da_cons (de_name 4) da_nil)) T.z_range) (fun _ _ _ _ _ => (dgb_name 10 sc_law.nd)) (fun _ _ _ _ _ => dts_nil) (fun _ _ _ _ _ => (de_tup (da_cons (de_ix ((do_lst (da_cons de_str (da_cons de_str da_nil)))).frz (de_name 10)) (da_cons (de_ix (de_name 4) (de_name 10)) da_nil)))))).frz da_nil)) (da_cons (de_tup da_nil) (da_cons (de_tup da_nil) (da_cons (de_tup da_nil) (da_cons de_int (da_cons de_int da_nil))))))))))
      (dss_cons (dst_if (dt_not (dt_tru ((do_f (ok__law_equal T 12) (hr.mono (by decide)) tk (da_cons ((do_f (ok__law_told T) (hr.mono (by decide)) tk (da_cons (de_name 8) da_nil) (alenS alen0))).frz (da_cons (de_name 6) da_nil)) (alenS (alenS alen0)))).frz)) (dss_one (dst_ret (de_bl).rv)) dss_nil)
      (dss_one (dst_for po (di_any ((do_lst (da_cons de_int (da_cons de_int (da_cons (de_op mod_ok ((do_fC (ok__law_draw T) (hr.mono (by decide)) tk (da_cons (de_name 1) da_nil) (alenS alen0))).frz de_int) (da_cons ((do_fC (ok__law_draw T) (hr.mono (by decide)) tk (da_cons (de_name 1) da_nil) (alenS alen0))).frz (da_cons (de_op pow_ok de_int de_int) da_nil))))))).frz) (dg_name 9 sc_law.nd) (dss_one (dst_if (dw_and (dt_isnn (de_ix (de_name 5) de_int)) (dw_and1 (dt_not (dt_tru ((do_f (ok__law_equal T 12) (hr.mono (by decide)) tk (da_cons ((do_f (ok_pay T) (hr.mono (by decide)) tk (da_cons (de_name 3) (da_cons (de_ix (de_name 4) de_int) (da_cons (de_name 9) da_nil))) (alenS (alenS (alenS alen0))))).frz (da_cons (de_ix ((do_f (ok__law_at T) (hr.mono (by decide)) tk (da_cons (de_ix (de_name 5) de_int) (da_cons (de_name 9) da_nil)) (alenS (alenS alen0)))).frz de_int) da_nil)) (alenS (alenS alen0)))).frz)))).dt (dss_one (dst_ret (de_bl).rv)) dss_nil)))))))))))))
    (dss_one (dst_ret (de_bl).rv))))
end
end Law

set_option Elab.async false
set_option linter.all false
set_option maxRecDepth 100000
set_option maxHeartbeats 4000000
namespace Law
open PySem L2 Dn
def fan : List He.Fa := [.glo "is_number", .glo "is_name", .glo "is_day", .glo "is_money", .glo "is_tuple", .glo "are_unlike", .glo "constant", .glo "itself", .glo "joined", .glo "cut", .glo "paired", .glo "added", .glo "multiplied", .glo "lesser", .glo "greater", .glo "chosen", .glo "least_value", .glo "greatest_value", .glo "value_at", .glo "is_gentle", .glo "are_names", .glo "conditions_in", .glo "is_condition", .glo "are_few", .glo "pays_in", .glo "is_pay", .glo "line_of", .glo "line_of_parts", .glo "is_layer", .glo "is_back", .glo "are_words", .glo "check_words", .glo "paid_by", .glo "pay", .glo "_law_mixed", .glo "_law_numbers", .glo "_law_draw", .glo "_law_equal", .glo "_law_all_equal", .glo "_law_any_pay", .glo "_law_at", .glo "_law_joined", .glo "_law_chosen", .glo "_law_ends", .glo "_law_pieces", .glo "_law_rises", .glo "_law_told", .glo "_law_soft", .glo "law", .free "abs", .free "bool", .free "int", .free "isinstance", .free "len", .free "list", .free "max", .free "min", .free "range", .free "set", .free "sorted", .free "str", .free "tuple", .str "LETTERS" "abcdefghijklmnopqrstuvwxyz", .str "FIGURES" "0123456789", .int "MOST" (1000000000000000), .int "MONEY" (1000000000000), .int "LAST" (36500), .glo "WhatbefellError", .exc "WhatbefellError", .glo "BadWords", .exc "BadWords", .exm "WhatbefellError" "WhatbefellError" true, .exm "BadWords" "WhatbefellError" true]
def fbl (K : PySem.W.Frag) : List Bool := [excB K "WhatbefellError", excB K "BadWords", kitB K "WhatbefellError" "BadWords" false, kitB K "BadWords" "BadWords" true]
def fbn (K : PySem.W.Frag) : Bool := (fbl K).all id
theorem fbn_at {K : PySem.W.Frag} (h : fbn K = true) (i : Nat) {b : Bool} (e : (fbl K)[i]? = some b) : b = true := by
  unfold fbn at h
  rw [List.all_eq_true] at h
  exact h b (List.mem_of_getElem? e)
def fnn : List He.DefD := [dfd "is_number" st_is_number, dfd "is_name" st_is_name, dfd "is_day" st_is_day, dfd "is_money" st_is_money, dfd "is_tuple" st_is_tuple, dfd "are_unlike" st_are_unlike, dfd "constant" st_constant, dfd "itself" st_itself, dfd "joined" st_joined, dfd "cut" st_cut, dfd "paired" st_paired, dfd "added" st_added, dfd "multiplied" st_multiplied, dfd "lesser" st_lesser, dfd "greater" st_greater, dfd "chosen" st_chosen, dfd "least_value" st_least_value, dfd "greatest_value" st_greatest_value, dfd "value_at" st_value_at, dfd "is_gentle" st_is_gentle, dfd "are_names" st_are_names, dfd "conditions_in" st_conditions_in, dfd "is_condition" st_is_condition, dfd "are_few" st_are_few, dfd "pays_in" st_pays_in, dfd "is_pay" st_is_pay, dfd "line_of" st_line_of, dfd "line_of_parts" st_line_of_parts, dfd "is_layer" st_is_layer, dfd "is_back" st_is_back, dfd "are_words" st_are_words, dfd "check_words" st_check_words, dfd "paid_by" st_paid_by, dfd "pay" st_pay, dfd "_law_mixed" st__law_mixed, dfd "_law_numbers" st__law_numbers, dfd "_law_draw" st__law_draw, dfd "_law_equal" st__law_equal, dfd "_law_all_equal" st__law_all_equal, dfd "_law_any_pay" st__law_any_pay, dfd "_law_at" st__law_at, dfd "_law_joined" st__law_joined, dfd "_law_chosen" st__law_chosen, dfd "_law_ends" st__law_ends, dfd "_law_pieces" st__law_pieces, dfd "_law_rises" st__law_rises, dfd "_law_told" st__law_told, dfd "_law_soft" st__law_soft, dfd "law" st_law]
abbrev R : PySem.W.OpenRow := PySem.W.OpenLaw.row PySem.Challenge.rw_whatbefell_k09_whole_words_rise_by_nough
def loo0 : List PySem.Str := ["WhatbefellError", "BadWords", "LETTERS", "FIGURES", "MOST", "MONEY", "LAST", "is_number", "is_name", "is_day", "is_money", "is_tuple", "are_unlike", "constant", "itself", "joined", "cut", "paired", "added", "multiplied"]
def loo1 : List PySem.Str := ["lesser", "greater", "chosen", "least_value", "greatest_value", "value_at", "is_gentle", "are_names", "conditions_in", "is_condition", "are_few", "pays_in", "is_pay", "line_of", "line_of_parts", "is_layer", "is_back", "are_words", "check_words", "paid_by"]
def loo2 : List PySem.Str := ["pay", "_law_mixed", "_law_numbers", "_law_draw", "_law_equal", "_law_all_equal", "_law_any_pay", "_law_at", "_law_joined", "_law_chosen", "_law_ends", "_law_pieces", "_law_rises", "_law_told", "_law_soft"]
def loo : List PySem.Str := loo0 ++ loo1 ++ loo2
theorem run (w : World) : HandSHeadRun.RunEq R (PySem.W.view R.prog [60]) (hookL 5 fan fnn fbn) (obL 5 fan fnn fbn) 6000 loo w := by
  intro os
  kernel_rfl
theorem tx_of {K : PySem.W.Frag} {mg : PySem.Str → Option Value} {h : Heap} (X : K.In h) (G : h.Ns mainGlobals mg) (c : He.SaysD fan fnn K) (cb : fbn K = true) : Tx K mg where
  z_abs := He.free_ok X G (c.fact 49 rfl)
  z_bool := He.free_ok X G (c.fact 50 rfl)
  z_int := He.free_ok X G (c.fact 51 rfl)
  z_isinstance := He.free_ok X G (c.fact 52 rfl)
  z_len := He.free_ok X G (c.fact 53 rfl)
  z_list := He.free_ok X G (c.fact 54 rfl)
  z_max := He.free_ok X G (c.fact 55 rfl)
  z_min := He.free_ok X G (c.fact 56 rfl)
  z_range := He.free_ok X G (c.fact 57 rfl)
  z_set := He.free_ok X G (c.fact 58 rfl)
  z_sorted := He.free_ok X G (c.fact 59 rfl)
  z_str := He.free_ok X G (c.fact 60 rfl)
  z_tuple := He.free_ok X G (c.fact 61 rfl)
  m_LETTERS := He.str_ok X G (c.fact 62 rfl)
  m_FIGURES := He.str_ok X G (c.fact 63 rfl)
  m_MOST := He.int_ok X G (c.fact 64 rfl)
  m_MONEY := He.int_ok X G (c.fact 65 rfl)
  m_LAST := He.int_ok X G (c.fact 66 rfl)
  x_WhatbefellError := exf_of X G c 67 68 rfl rfl
  x_BadWords := exf_of X G c 69 70 rfl rfl
  e_WhatbefellError := excB_ok (fbn_at cb 0 rfl)
  e_BadWords := excB_ok (fbn_at cb 1 rfl)
  k_WhatbefellError_BadWords := kitB_ok (fbn_at cb 2 rfl)
  k_BadWords_BadWords := kitB_ok (fbn_at cb 3 rfl)
  s_WhatbefellError_WhatbefellError := He.exm_ok (c.fact 71 rfl)
  s_BadWords_WhatbefellError := He.exm_ok (c.fact 72 rfl)
  d_is_number := dfn_of X G c 0 0 rfl rfl fun _ _ _ _ _ _ us hl => match us, hl with | [_, _, _], _ => rfl
  d_is_name := dfn_of X G c 1 1 rfl rfl fun _ _ _ _ _ _ us hl => match us, hl with | [_], _ => rfl
  d_is_day := dfn_of X G c 2 2 rfl rfl fun _ _ _ _ _ _ us hl => match us, hl with | [_], _ => rfl
  d_is_money := dfn_of X G c 3 3 rfl rfl fun _ _ _ _ _ _ us hl => match us, hl with | [_], _ => rfl
  d_is_tuple := dfn_of X G c 4 4 rfl rfl fun _ _ _ _ _ _ us hl => match us, hl with | [_, _, _], _ => rfl
  d_are_unlike := dfn_of X G c 5 5 rfl rfl fun _ _ _ _ _ _ us hl => match us, hl with | [_], _ => rfl
  d_constant := dfn_of X G c 6 6 rfl rfl fun _ _ _ _ _ _ us hl => match us, hl with | [_], _ => rfl
  d_itself := dfn_of X G c 7 7 rfl rfl fun _ _ _ _ _ _ us hl => match us, hl with | [], _ => rfl
  d_joined := dfn_of X G c 8 8 rfl rfl fun _ _ _ _ _ _ us hl => match us, hl with | [_], _ => rfl
  d_cut := dfn_of X G c 9 9 rfl rfl fun _ _ _ _ _ _ us hl => match us, hl with | [_, _, _], _ => rfl
  d_paired := dfn_of X G c 10 10 rfl rfl fun _ _ _ _ _ _ us hl => match us, hl with | [_, _], _ => rfl
  d_added := dfn_of X G c 11 11 rfl rfl fun _ _ _ _ _ _ us hl => match us, hl with | [_, _, _], _ => rfl
  d_multiplied := dfn_of X G c 12 12 rfl rfl fun _ _ _ _ _ _ us hl => match us, hl with | [_, _], _ => rfl
  d_lesser := dfn_of X G c 13 13 rfl rfl fun _ _ _ _ _ _ us hl => match us, hl with | [_, _], _ => rfl
  d_greater := dfn_of X G c 14 14 rfl rfl fun _ _ _ _ _ _ us hl => match us, hl with | [_, _], _ => rfl
  d_chosen := dfn_of X G c 15 15 rfl rfl fun _ _ _ _ _ _ us hl => match us, hl with | [_, _, _, _], _ => rfl
  d_least_value := dfn_of X G c 16 16 rfl rfl fun _ _ _ _ _ _ us hl => match us, hl with | [_], _ => rfl
  d_greatest_value := dfn_of X G c 17 17 rfl rfl fun _ _ _ _ _ _ us hl => match us, hl with | [_], _ => rfl
  d_value_at := dfn_of X G c 18 18 rfl rfl fun _ _ _ _ _ _ us hl => match us, hl with | [_, _], _ => rfl
  d_is_gentle := dfn_of X G c 19 19 rfl rfl fun _ _ _ _ _ _ us hl => match us, hl with | [_], _ => rfl
  d_are_names := dfn_of X G c 20 20 rfl rfl fun _ _ _ _ _ _ us hl => match us, hl with | [_], _ => rfl
  d_conditions_in := dfn_of X G c 21 21 rfl rfl fun _ _ _ _ _ _ us hl => match us, hl with | [_], _ => rfl
  d_is_condition := dfn_of X G c 22 22 rfl rfl fun _ _ _ _ _ _ us hl => match us, hl with | [_], _ => rfl
  d_are_few := dfn_of X G c 23 23 rfl rfl fun _ _ _ _ _ _ us hl => match us, hl with | [_, _], _ => rfl
  d_pays_in := dfn_of X G c 24 24 rfl rfl fun _ _ _ _ _ _ us hl => match us, hl with | [_], _ => rfl
  d_is_pay := dfn_of X G c 25 25 rfl rfl fun _ _ _ _ _ _ us hl => match us, hl with | [_], _ => rfl
  d_line_of := dfn_of X G c 26 26 rfl rfl fun _ _ _ _ _ _ us hl => match us, hl with | [_, _], _ => rfl
  d_line_of_parts := dfn_of X G c 27 27 rfl rfl fun _ _ _ _ _ _ us hl => match us, hl with | [_, _], _ => rfl
  d_is_layer := dfn_of X G c 28 28 rfl rfl fun _ _ _ _ _ _ us hl => match us, hl with | [_], _ => rfl
  d_is_back := dfn_of X G c 29 29 rfl rfl fun _ _ _ _ _ _ us hl => match us, hl with | [_], _ => rfl
  d_are_words := dfn_of X G c 30 30 rfl rfl fun _ _ _ _ _ _ us hl => match us, hl with | [_], _ => rfl
  d_check_words := dfn_of X G c 31 31 rfl rfl fun _ _ _ _ _ _ us hl => match us, hl with | [_], _ => rfl
  d_paid_by := dfn_of X G c 32 32 rfl rfl fun _ _ _ _ _ _ us hl => match us, hl with | [_, _, _], _ => rfl
  d_pay := dfn_of X G c 33 33 rfl rfl fun _ _ _ _ _ _ us hl => match us, hl with | [_, _, _], _ => rfl
  d__law_mixed := dfn_of X G c 34 34 rfl rfl fun _ _ _ _ _ _ us hl => match us, hl with | [_, _], _ => rfl
  d__law_numbers := dfn_of X G c 35 35 rfl rfl fun _ _ _ _ _ _ us hl => match us, hl with | [_], _ => rfl
  d__law_draw := dfn_of X G c 36 36 rfl rfl fun _ _ _ _ _ _ us hl => match us, hl with | [_], _ => rfl
  d__law_equal := dfn_of X G c 37 37 rfl rfl fun _ _ _ _ _ _ us hl => match us, hl with | [_, _], _ => rfl
  d__law_all_equal := dfn_of X G c 38 38 rfl rfl fun _ _ _ _ _ _ us hl => match us, hl with | [_, _], _ => rfl
  d__law_any_pay := dfn_of X G c 39 39 rfl rfl fun _ _ _ _ _ _ us hl => match us, hl with | [_, _], _ => rfl
  d__law_at := dfn_of X G c 40 40 rfl rfl fun _ _ _ _ _ _ us hl => match us, hl with | [_, _], _ => rfl
  d__law_joined := dfn_of X G c 41 41 rfl rfl fun _ _ _ _ _ _ us hl => match us, hl with | [_, _, _], _ => rfl
  d__law_chosen := dfn_of X G c 42 42 rfl rfl fun _ _ _ _ _ _ us hl => match us, hl with | [_, _, _, _], _ => rfl
  d__law_ends := dfn_of X G c 43 43 rfl rfl fun _ _ _ _ _ _ us hl => match us, hl with | [_], _ => rfl
  d__law_pieces := dfn_of X G c 44 44 rfl rfl fun _ _ _ _ _ _ us hl => match us, hl with | [_, _], _ => rfl
  d__law_rises := dfn_of X G c 45 45 rfl rfl fun _ _ _ _ _ _ us hl => match us, hl with | [_], _ => rfl
  d__law_told := dfn_of X G c 46 46 rfl rfl fun _ _ _ _ _ _ us hl => match us, hl with | [_], _ => rfl
  d__law_soft := dfn_of X G c 47 47 rfl rfl fun _ _ _ _ _ _ us hl => match us, hl with | [_, _], _ => rfl
  d_law := dfn_of X G c 48 48 rfl rfl fun _ _ _ _ _ _ us hl => match us, hl with | [_], _ => rfl
end Law
open PySem PySem.W PySem.Calls PyProof.Rows
set_option maxHeartbeats 0 in
theorem PySem.Challenge.cw_whatbefell_k09_whole_words_rise_by_nough_holds : PySem.Challenge.rw_whatbefell_k09_whole_words_rise_by_nough.Holds := by
  w_on; o_law
  refine HandSHeadRun.head_any (r := OpenLaw.row PySem.Challenge.rw_whatbefell_k09_whole_words_rise_by_nough) (q := view (OpenLaw.row PySem.Challenge.rw_whatbefell_k09_whole_words_rise_by_nough).prog [60]) (H := Dn.hookL 5 Law.fan Law.fnn Law.fbn) (ob := Dn.obL 5 Law.fan Law.fnn Law.fbn) (M := 6000) (loose := Law.loo) (d := HandSHeadRun.topDef (OpenLaw.row PySem.Challenge.rw_whatbefell_k09_whole_words_rise_by_nough).prog 60) (kwd := []) (Dn.obL_eq 5 Law.fan Law.fnn Law.fbn)
    (by kernel_rfl) (fun s => by kernel_rfl) Law.run (by kernel_rfl) (by kernel_rfl) (by kernel_rfl) (by rfl) (by first | assumption | decide +kernel) (by decide +kernel) ⟨rfl, rfl, rfl, rfl, rfl, by decide +kernel⟩ ?hw ?hc
  case hw => w_witness2
  case hc =>
    refine Dn.law_end (l := PySem.Challenge.rw_whatbefell_k09_whole_words_rise_by_nough) (n := 63) (k := 67) (x := "script") (F := fun K => Law.F_law K) rfl (by decide) (by kernel_rfl) ⟨rfl, by decide, by decide⟩ ?_ (fun K ns h => Law.law_true K ns h)
    intro w mg h K X c cb G
    have T : Law.Tx K mg := Law.tx_of X G c cb
    have e : (HandSHeadRun.topDef (OpenLaw.row PySem.Challenge.rw_whatbefell_k09_whole_words_rise_by_nough).prog 60).name = ("law" : PySem.Str) := by kernel_rfl
    rw [e]
    obtain ⟨fd, F⟩ := c.def_ 48 (d := Dn.dfd "law" Law.st_law) rfl
    have b := L2.FunD.bindsA (ps := ["script"]) F fun _ _ _ _ _ _ us hl => match us, hl with | [_], _ => rfl
    refine ⟨fd, T.d_law.g, fun s v => b s [v] rfl, fun base _ _ => ?_⟩
    exact Law.law_fn T F
