import PyProof.Rows.All
import Wide.All
import OpenK.AllK
import Wide.FinOn
import HandS.ForMost
import HandS.ForExc
import HandS.Deep
import HandS.List
import HandS.TupAny
import HandS.IsInst
import HandS.Flow
import HandS.Wide
import HandS.Evl
import KE.KDictKeyed
import HandS.CallLocal
import HandS.Rev
import HandS.Defaults
import HandS.Exc
import HandS.ExcOwn
import HandS.TryOnly
import HandS.WordsExc
import KE.KStateDown
import HandS.Head0
import HandS.Head1
import HandS.Head2
import HandS.HeadEnd
import HandS.HeadHook1
import HandS.HeadHook2
import HandS.HeadHook4
import HandS.Comp
import HandS.SetKeys
import HandS.Set
import HandS.SetFor
import PyProof.Rows.SortShellAny
import HandS.TupSets
import HandS.Iter
import HandS.ExcIs
import HandS.RaiseMore
import HandS.TupMul
import KE.KTupSum
import PyProof.ReprRoads
import PyProof.ReprBulk
import HandS.Dict
import HandS.More
import HandS.Style
import KE.SortKeyHeap
import HandS.SortKw
import HandS.SortOrd
import HandS.ExcValue
import HandS.OwnEq
import KE.KDictPairs
import HandS.Call
import HandS.TryMany
import KE.LtData
import KE.SortData
import HandS.Flt
import KE.KDictDisplayH
import PySem.Challenge.RW_whatbefell_k27_papers_of_towers_are_judg
set_option Elab.async false
set_option linter.all false
set_option maxRecDepth 100000
set_option maxHeartbeats 4000000
namespace Dn
open PySem L2 He
def nl (o : Obj) : Bool := match o.cls with
  | .type c => c != "list"
  | _ => true
def frL (g : Addr → Option Obj) (as : List Addr) : PySem.W.Frag := (frG g as).filter fun q => nl q.2
theorem frL_mem {g : Addr → Option Obj} {as : List Addr} {a : Addr} {o : Obj} (h : (frL g as).lookup a = some o) : g a = some o ∧ nl o = true := by
  obtain ⟨h1, h2⟩ := List.mem_filter.mp (lookup_mem h)
  exact ⟨frG_mem h1, h2⟩
abbrev AlL : Type := AlD × Bool
def obsL (n : Nat) (fa : List Fa) (fn : List DefD) (fb : PySem.W.Frag → Bool) (g : Addr → Option Obj) : AlL := (obsD fa fn (frL g (He.asD g n)), fb (frL g (He.asD g n)))
def SaysL (fa : List Fa) (fn : List DefD) (fb : PySem.W.Frag → Bool) (K : PySem.W.Frag) : Prop := SaysD fa fn K ∧ fb K = true ∧ ∀ a o, K.lookup a = some o → o.cls ≠ .type "list"
def hookL (n : Nat) (fa : List Fa) (fn : List DefD) (fb : PySem.W.Frag → Bool) : PySem.W.Hook where
  α := AlL
  obs := fun s => obsL n fa fn fb s.heap.get?
  val := fun _ => (valD fn, true)
  says := fun _ h => ∃ K : PySem.W.Frag, K.In h ∧ SaysL fa fn fb K
  of := fun _ _ e => ⟨_, fun _ _ q => (frL_mem q).1, congrArg (fun z : AlL => z.1) e, congrArg (fun z : AlL => z.2) e, fun a o q z => by
    have h := (frL_mem q).2
    unfold nl at h
    rw [z] at h
    cases h⟩
  keeps := fun _ _ _ ⟨K, hK, c⟩ k => ⟨K, PySem.W.Frag.In.keeps hK k, c⟩
/-- a def of the text, as the hook looks at it -/
def dfd (x : Str) (st : Stmt) : DefD := ⟨(x, none), x, x, defArgs st, defBody st, defScope st, [], []⟩
end Dn
namespace Dn
open PySem L2 He
def growN (g : Addr → Option Obj) : Nat → List Addr → List Addr
  | 0, as => as
  | n + 1, as => growN g n (growD g as)
def asX (n : Nat) (cs : List Str) (g : Addr → Option Obj) : List Addr := He.asD g 2 ++ growN g n (cs.map (ga (frL g (He.asD g 2))))
def obsX (n : Nat) (cs : List Str) (fa : List Fa) (fn : List DefD) (fb : PySem.W.Frag → Bool) (g : Addr → Option Obj) : AlL := (obsD fa fn (frL g (asX n cs g)), fb (frL g (asX n cs g)))
def hookX (n : Nat) (cs : List Str) (fa : List Fa) (fn : List DefD) (fb : PySem.W.Frag → Bool) : PySem.W.Hook where
  α := AlL
  obs := fun s => obsX n cs fa fn fb s.heap.get?
  val := fun _ => (valD fn, true)
  says := fun _ h => ∃ K : PySem.W.Frag, K.In h ∧ SaysL fa fn fb K
  of := fun _ _ e => ⟨_, fun _ _ q => (frL_mem q).1, congrArg (fun z : AlL => z.1) e, congrArg (fun z : AlL => z.2) e, fun a o q z => by
    have h := (frL_mem q).2
    unfold nl at h
    rw [z] at h
    cases h⟩
  keeps := fun _ _ _ ⟨K, hK, c⟩ k => ⟨K, PySem.W.Frag.In.keeps hK k, c⟩
def obX (n : Nat) (cs : List Str) (fa : List Fa) (fn : List DefD) (fb : PySem.W.Frag → Bool) (s : PySem.W.SharedT) : AlL := obsX n cs fa fn fb (HandSHeadRun.getT s)
theorem obX_eq (n : Nat) (cs : List Str) (fa : List Fa) (fn : List DefD) (fb : PySem.W.Frag → Bool) (s : PySem.W.SharedT) : obX n cs fa fn fb s = (hookX n cs fa fn fb).obs s.abs := by
  have e : HandSHeadRun.getT s = s.abs.heap.get? := funext (HandSHeadRun.getT_eq s)
  unfold obX
  rw [e] <;> rfl
end Dn
namespace Dn
open PySem L2
end Dn
namespace Dn
open PySem L2
end Dn
namespace Dn
open PySem L2
def clsBody : Stmt → List Stmt
  | .ClassDef _ _ _ body _ _ _ _ _ _ _ => body
  | _ => []
def dfdM (c m q : Str) (st : Stmt) : He.DefD := ⟨(c, some m), m, q, defArgs st, defBody st, defScope st, [], []⟩
end Dn
namespace Law
open PySem L2 Dn
def top (i : Nat) : Stmt := PySem.Challenge.pw_whatbefell_k27_papers_of_towers_are_judg.main.body.getD i (.Pass ⟨0, 0, 0, 0⟩)
abbrev st_is_number : Stmt := top 6
abbrev st_is_money : Stmt := top 7
abbrev st_is_tuple : Stmt := top 8
abbrev st_clipped : Stmt := top 10
abbrev st_same : Stmt := top 12
abbrev st_is_kind : Stmt := top 14
abbrev st_check_tower : Stmt := top 17
abbrev st_layer_of : Stmt := top 18
abbrev st_taken : Stmt := top 19
abbrev st_Towers___init__ : Stmt := (clsBody (top 20)).getD 0 (.Pass ⟨0, 0, 0, 0⟩)
abbrev st_Towers_after : Stmt := (clsBody (top 20)).getD 1 (.Pass ⟨0, 0, 0, 0⟩)
abbrev st_Towers_check_standings : Stmt := (clsBody (top 20)).getD 2 (.Pass ⟨0, 0, 0, 0⟩)
abbrev st_Towers_apart : Stmt := (clsBody (top 20)).getD 3 (.Pass ⟨0, 0, 0, 0⟩)
abbrev st_towers_alike : Stmt := top 21
abbrev st_is_tower_paper : Stmt := top 22
abbrev st__law_mixed : Stmt := top 24
abbrev st__law_numbers : Stmt := top 25
abbrev st__law_draw : Stmt := top 26
abbrev st__law_equal : Stmt := top 27
abbrev st__law_all_equal : Stmt := top 28
abbrev st__law_clip : Stmt := top 29
abbrev st__law_layer : Stmt := top 30
abbrev st__law_take : Stmt := top 31
abbrev st__law_cut : Stmt := top 32
abbrev st__law_walk : Stmt := top 33
abbrev st__law_kind : Stmt := top 34
abbrev st__law_towers : Stmt := top 35
abbrev st__law_amounts : Stmt := top 36
abbrev st__law_all_standings : Stmt := top 37
abbrev st__law_spoilt : Stmt := top 38
abbrev st_law : Stmt := top 39
end Law
namespace Law
open PySem L2 Dn
def fan : List He.Fa := [.glo "is_number", .glo "is_money", .glo "is_tuple", .glo "clipped", .glo "same", .glo "is_kind", .glo "check_tower", .glo "layer_of", .glo "taken", .meth "Towers" "__init__", .meth "Towers" "after", .meth "Towers" "check_standings", .meth "Towers" "apart", .glo "towers_alike", .glo "is_tower_paper", .glo "_law_mixed", .glo "_law_numbers", .glo "_law_draw", .glo "_law_equal", .glo "_law_all_equal", .glo "_law_clip", .glo "_law_layer", .glo "_law_take", .glo "_law_cut", .glo "_law_walk", .glo "_law_kind", .glo "_law_towers", .glo "_law_amounts", .glo "_law_all_standings", .glo "_law_spoilt", .glo "law", .glo "Towers", .cls "Towers", .mkr "Towers", .noat "Towers" "towers", .noat "Towers" "layers", .noat "Towers" "pairs", .noat "Towers" "start", .noat "Towers" "standings", .free "bool", .free "int", .free "isinstance", .free "len", .free "list", .free "max", .free "min", .free "range", .free "set", .free "sorted", .free "str", .free "sum", .free "tuple", .int "MONEY" (1000000000000), .int "MOST_STANDINGS" (4000), .glo "WhatbefellError", .exc "WhatbefellError", .glo "BadArgument", .exc "BadArgument", .glo "TooLarge", .exc "TooLarge"]
def fbn (_ : PySem.W.Frag) : Bool := true
def fnn : List He.DefD := [dfd "is_number" st_is_number, dfd "is_money" st_is_money, dfd "is_tuple" st_is_tuple, dfd "clipped" st_clipped, dfd "same" st_same, dfd "is_kind" st_is_kind, dfd "check_tower" st_check_tower, dfd "layer_of" st_layer_of, dfd "taken" st_taken, dfdM "Towers" "__init__" "Towers.__init__" st_Towers___init__, dfdM "Towers" "after" "Towers.after" st_Towers_after, dfdM "Towers" "check_standings" "Towers.check_standings" st_Towers_check_standings, dfdM "Towers" "apart" "Towers.apart" st_Towers_apart, dfd "towers_alike" st_towers_alike, dfd "is_tower_paper" st_is_tower_paper, dfd "_law_mixed" st__law_mixed, dfd "_law_numbers" st__law_numbers, dfd "_law_draw" st__law_draw, dfd "_law_equal" st__law_equal, dfd "_law_all_equal" st__law_all_equal, dfd "_law_clip" st__law_clip, dfd "_law_layer" st__law_layer, dfd "_law_take" st__law_take, dfd "_law_cut" st__law_cut, dfd "_law_walk" st__law_walk, dfd "_law_kind" st__law_kind, dfd "_law_towers" st__law_towers, dfd "_law_amounts" st__law_amounts, dfd "_law_all_standings" st__law_all_standings, dfd "_law_spoilt" st__law_spoilt, dfd "law" st_law]
abbrev R : PySem.W.OpenRow := PySem.W.OpenLaw.row PySem.Challenge.rw_whatbefell_k27_papers_of_towers_are_judg
def loo0 : List PySem.Str := ["WhatbefellError", "BadArgument", "TooLarge", "MONEY", "is_number", "is_money", "is_tuple", "clipped", "same", "is_kind", "MOST_STANDINGS", "check_tower", "layer_of", "taken", "Towers", "towers_alike", "is_tower_paper", "_law_mixed", "_law_numbers", "_law_draw"]
def loo1 : List PySem.Str := ["_law_equal", "_law_all_equal", "_law_clip", "_law_layer", "_law_take", "_law_cut", "_law_walk", "_law_kind", "_law_towers", "_law_amounts", "_law_all_standings", "_law_spoilt"]
def loo : List PySem.Str := loo0 ++ loo1
theorem run (w : World) : HandSHeadRun.RunEq R (PySem.W.view R.prog [39]) (hookX 3 ["Towers"] fan fnn fbn) (obX 3 ["Towers"] fan fnn fbn) 6000 loo w := by
  intro os
  kernel_rfl
end Law
set_option Elab.async false
set_option linter.all false
set_option maxRecDepth 100000
set_option maxHeartbeats 1000000
namespace Dn
open PySem L2 PySem.Spec PyProof.Rows
def TupF (H : Hp) (a : Addr) (xs : List V) : Prop := ∃ o : Obj, H a = some (.frz o (.tup xs)) ∧ o.dict = none
theorem TupF.rd {H : Hp} {a : Addr} {xs : List V} (h : TupF H a xs) : Rd H a (.tup xs) := let ⟨o, e, _⟩ := h; .inr ⟨o, e⟩
theorem TupF.ex {H H' : Hp} {a : Addr} {xs : List V} (h : TupF H a xs) (e : ∀ a o, H a = some o → H' a = some o) : TupF H' a xs := let ⟨o, q, d⟩ := h; ⟨o, e _ _ q, d⟩
def tTupF (t : TA) : TE := fun σ H Q => t σ H fun xs H1 => xs.length ≤ sizeLine ∧ ∀ p (o : Obj), H1 p = none → o.dict = none → Q (.ref p) (upd H1 p (.frz o (.tup xs)))
def rCatF (K : PySem.W.Frag) : R2 := fun x y H Q => ∃ a b xs ys, x = .ref a ∧ y = .ref b ∧ SqT K H a xs ∧ SqT K H b ys ∧ xs.length + ys.length ≤ sizeLine ∧
  (xs = [] → Q (.ref b) H) ∧ (xs ≠ [] → ys = [] → Q (.ref a) H) ∧ (xs ≠ [] → ys ≠ [] → ∀ p (o : Obj), H p = none → o.dict = none → Q (.ref p) (upd H p (.frz o (.tup (xs ++ ys)))))
def rSlF (K : PySem.W.Frag) : V → Option Int → Option Int → Hp → VK → Prop := fun x lo hi H Q => ∃ a xs, x = .ref a ∧ SqT K H a xs ∧
  (HT.sIx xs.length 0 lo = 0 ∧ HT.sIx xs.length xs.length hi = xs.length → Q (.ref a) H) ∧ (¬ (HT.sIx xs.length 0 lo = 0 ∧ HT.sIx xs.length xs.length hi = xs.length) → ∀ p (o : Obj), H p = none → o.dict = none → Q (.ref p) (upd H p (.frz o (.tup (cutV xs lo hi)))))
section
variable {X : Cx} {es : List Expr} {t : TA} {pos : Pos}
theorem pe_tupF {x1} (h : PA X es t) : PE X (.Tuple es x1 pos) (tTupF t) := by
  refine ⟨fun pins s σ H Q I hq => ?_⟩
  refine wpAny_Tuple_spliced (thn (h.run pos pins s σ H _ I hq) fun us s1 ⟨xs, H1, I1, r, z, q⟩ => ⟨by rw [← r.length]; exact z, ?_⟩)
  have hf : H1 s1.heap.objs.size = none := I1.hok.fresh (Nat.le_refl _)
  exact ⟨.ref s1.heap.objs.size, upd H1 s1.heap.objs.size (.frz _ (.tup xs)), I1.laid (t' := s1.toks) (fun b u e => Heap.get?_push_of_some _ e) (Nat.le_refl _) ⟨Heap.get?_push_size _ rfl, z, us, r, ⟨_, Heap.get?_push_size _ rfl, rfl, _, rfl⟩⟩, rfl, q _ _ hf rfl⟩
theorem op_catF : OpR X (binaryOp .Add) (rCatF X.K) := by
  intro pins s σ H x y v u Q I rx ry h
  obtain ⟨a, b, xs, ys, rfl, rfl, ha, hb, hz, q0, q1, q2⟩ := h
  cases rx
  cases ry
  obtain ⟨its, r1, p1, _⟩ := I.tuple ha
  obtain ⟨its2, r2, p2, _⟩ := I.tuple hb
  by_cases hx : xs = []
  · subst hx
    cases r1
    exact cat_tup0 p1 p2 ⟨.ref b, H, I, rfl, q0 rfl⟩
  · refine HT.cat_tup p1 p2 (fun z => hx (r1.nil_iff.mp z)) (fun z => ⟨.ref a, H, I, rfl, q1 hx (r2.nil_iff.mp z)⟩) (fun z => ?_) (by rw [← r1.length, ← r2.length]; exact hz)
    exact ⟨.ref s.heap.objs.size, _, I.laid (t' := s.toks) (o := .frz _ (.tup (xs ++ ys))) (fun b ob q => Heap.get?_push_of_some _ q) (Nat.le_refl _) ⟨Heap.get?_push_size _ rfl, by rw [List.length_append]; exact hz, _, r1.append r2, IsTup.new _ _⟩, rfl, q2 hx (fun w => z (r2.nil_iff.mpr w)) _ _ (I.hok.fresh (Nat.le_refl _)) rfl⟩
theorem sl_tupF : SlR X (rSlF X.K) := by
  intro pins s σ H x v vl vu lo hi sl Q I rx hs pl pu h
  obtain ⟨a, xs, rfl, hx, q1, q2⟩ := h
  cases rx
  obtain ⟨its, r, ht, hz⟩ := I.tuple hx
  have hlen : its.toArray.size = xs.length := by rw [List.size_toArray]; exact r.length.symm
  refine ⟨"tuple", _, PyProof.Rows.slot_tuple_getitem.lookup, ht.typeIs, ?_⟩
  by_cases hw : HT.sIx xs.length 0 lo = 0 ∧ HT.sIx xs.length xs.length hi = xs.length
  · exact getItem_tuple_whole ht hs pl pu (by rw [hlen]; exact hw) ⟨.ref a, H, I, rfl, q1 hw⟩
  · refine HT.getItem_tuple_cut ht hs pl pu (by rw [hlen]; exact hw) ?_ (by rw [hlen]; exact hz)
    rw [hlen]
    exact ⟨.ref s.heap.objs.size, _, I.laid (t' := s.toks) (o := .frz _ (.tup (cutV xs lo hi))) (fun b ob q => Heap.get?_push_of_some _ q) (Nat.le_refl _) ⟨Heap.get?_push_size _ rfl, Nat.le_trans (cutV_length xs lo hi) hz, _, (r.drop (HT.sIx xs.length 0 lo)).take (HT.sIx xs.length xs.length hi - HT.sIx xs.length 0 lo), IsTup.new _ _⟩, rfl, q2 hw _ _ (I.hok.fresh (Nat.le_refl _)) rfl⟩
theorem call_tupleF : CallR X (.type "tuple") (fun xs H Q => ∃ p ys, xs = [.ref p] ∧ ((SqL X.K H p ys ∧ ∀ l (o : Obj), H l = none → o.dict = none → Q (.ref l) (upd H l (.frz o (.tup ys)))) ∨ (SqT X.K H p ys ∧ Q (.ref p) H))) := by
  intro pins s σ H xs us Q I r h
  obtain ⟨p, ys, rfl, h⟩ := h
  obtain ⟨u, rfl, rx⟩ := vals1 r
  cases rx
  rcases h with ⟨hq, q⟩ | ⟨hq, q⟩
  · obtain ⟨its, r', pl, hz⟩ := I.list hq
    have hlen := r'.length
    refine call_tuple_list pl.isList (fun h' kp => ?_) (by simp only [List.size_toArray] <;> omega)
    have I1 : Inv X pins σ H { s with heap := h' } := I.kept (t' := s.toks) kp
    exact ⟨.ref h'.objs.size, _, I1.laid (t' := s.toks) (o := .frz { cls := .type "tuple", data := .seq its.toArray } (.tup ys)) (fun b o e => Heap.get?_push_of_some _ e) (Nat.le_refl _) ⟨Heap.get?_push_size _ rfl, hz, its, r', IsTup.new _ _⟩, rfl, q _ _ (I1.hok.fresh (Nat.le_refl _)) rfl⟩
  · obtain ⟨its, r', pl, hz⟩ := I.tuple hq
    exact call_tuple_same pl ⟨.ref p, H, I, rfl, q⟩
end
end Dn

set_option Elab.async false
set_option linter.all false
set_option maxRecDepth 100000
set_option maxHeartbeats 1000000
namespace Dn
open PySem L2

abbrev D := PyData
abbrev Ex (H H' : Hp) : Prop := ∀ a o, H a = some o → H' a = some o

/-- a slot: nothing, data, a cell of the store, a def -/
inductive S where
  | no
  | d (x : D)
  | cel (j : Nat)
  | fn (a : Addr)
/-- what a cell holds -/
inductive OC where
  | lst (xs : List D)
  | dK (kvs : List (Key × D))
  | dC (kvs : List (Key × Nat))
  | dU (kvs : List (List Key × Nat))
  | lC (is : List Nat)
  | tk (ks : List Key)
  | fK (kvs : List (Key × D))
  | ins (C : Addr) (fs : List (Str × S))
  | dV (w : World) (kvs : List (NestedKey × D))
/-- no cell within -/
def OC.pl : OC → Bool
  | .lst _ => true
  | .dK _ => true
  | .tk _ => true
  | .dV _ _ => true
  | _ => false
/-- a result: data, a new object, a cell -/
inductive Rv where
  | d (x : D)
  | own (o : OC)
  | cel (j : Nat)
  | pr (x : D) (xs : List D)
  | cp (j : Nat) (x : D)
def Rv.ncp : Rv → Bool
  | .cp _ _ => false
  | _ => true
abbrev Store := List OC
inductive Res (α : Type) where
  | ok (a : α) (cs : Store)
  | er (c : Str) (cs : Store)
  | no
abbrev M (α : Type) := Store → Res α
section
variable {α β : Type}
def ret (a : α) : M α := fun cs => .ok a cs
def stuck : M α := fun _ => .no
def bnd (m : M α) (k : α → M β) : M β := fun cs => match m cs with
  | .ok a cs' => k a cs'
  | .er c cs' => .er c cs'
  | .no => .no
def ofO : Option α → M α
  | some a => ret a
  | none => stuck
theorem bnd_ok {m : M α} {k : α → M β} {cs cs' : Store} {a : α} (h : m cs = .ok a cs') : bnd m k cs = k a cs' := by
  unfold bnd; rw [h]
end

mutual
inductive Dd (H : Hp) : V → D → Prop
  | non : Dd H .non .none
  | bl (b : Bool) : Dd H (.bl b) (.bool b)
  | int (i : Int) : Dd H (.int i) (.int i)
  | str (x : Str) : Dd H (.str x) (.str x)
  | lst {a : Addr} {xs : List V} {ds : List D} : Rd H a (.lst xs) → Dds H xs ds → Dd H (.ref a) (.list ds)
  | tup {a : Addr} {xs : List V} {ds : List D} : TupF H a xs → Dds H xs ds → Dd H (.ref a) (.tuple ds)
  | dic {a : Addr} : H a = some (.dK []) → Dd H (.ref a) (.dict [])
inductive Dds (H : Hp) : List V → List D → Prop
  | nil : Dds H [] []
  | cons {v : V} {vs : List V} {d : D} {ds : List D} : Dd H v d → Dds H vs ds → Dds H (v :: vs) (d :: ds)
end
theorem rd_ex {H H' : Hp} (e : Ex H H') {a : Addr} {u : HO} (h : Rd H a u) : Rd H' a u := by
  rcases h with h | ⟨o, h⟩
  · exact .inl (e a _ h)
  · exact .inr ⟨o, e a _ h⟩
mutual
theorem dp_ex {H H' : Hp} (e : Ex H H') : ∀ {v : V} {d : D}, Dd H v d → Dd H' v d
  | _, _, .non => .non
  | _, _, .bl b => .bl b
  | _, _, .int i => .int i
  | _, _, .str x => .str x
  | _, _, .lst h a => .lst (rd_ex e h) (dps_ex e a)
  | _, _, .tup h a => .tup (h.ex e) (dps_ex e a)
  | _, _, .dic h => .dic (e _ _ h)
theorem dps_ex {H H' : Hp} (e : Ex H H') : ∀ {vs : List V} {ds : List D}, Dds H vs ds → Dds H' vs ds
  | _, _, .nil => .nil
  | _, _, .cons h t => .cons (dp_ex e h) (dps_ex e t)
end
mutual
/-- no dict within -/
def ndD : D → Bool
  | .list xs => ndDs xs
  | .tuple xs => ndDs xs
  | .dict _ => false
  | _ => true
def ndDs : List D → Bool
  | [] => true
  | x :: xs => ndD x && ndDs xs
end
mutual
theorem dd_dp (K : PySem.W.Frag) {H : Hp} : ∀ {v : V} {d : D}, ndD d = true → Dd H v d → Dp K H v d
  | _, _, _, .non => .non
  | _, _, _, .bl b => .bl b
  | _, _, _, .int i => .int i
  | _, _, _, .str x => .str x
  | _, _, n, .lst h a => .lst (.inl h) (dds_dp K (by unfold ndD at n; exact n) a)
  | _, _, n, .tup h a => .tup (.inl h.rd) (dds_dp K (by unfold ndD at n; exact n) a)
  | _, _, n, .dic h => by unfold ndD at n; cases n
theorem dds_dp (K : PySem.W.Frag) {H : Hp} : ∀ {vs : List V} {ds : List D}, ndDs ds = true → Dds H vs ds → DpAll K H vs ds
  | _, _, _, .nil => .nil
  | _, _, n, .cons h t => by
    unfold ndDs at n
    rw [Bool.and_eq_true] at n
    exact .cons (dd_dp K n.1 h) (dds_dp K n.2 t)
end
mutual
theorem nd_lay : ∀ {d : D}, d.canLay0 = true → ndD d = true
  | .none, _ => by unfold ndD; rfl
  | .bool _, _ => by unfold ndD; rfl
  | .int _, _ => by unfold ndD; rfl
  | .str _, _ => by unfold ndD; rfl
  | .list xs, h => by unfold ndD; exact nds_lay (by simpa [PyData.canLay0] using h)
  | .tuple xs, h => by unfold ndD; exact nds_lay (by simpa [PyData.canLay0] using h)
  | .dict _, h => by simp [PyData.canLay0] at h
theorem nds_lay : ∀ {ds : List D}, PyData.canLayAll0 ds = true → ndDs ds = true
  | [], _ => by unfold ndDs; rfl
  | x :: xs, h => by
    unfold ndDs
    simp only [PyData.canLayAll0, Bool.and_eq_true] at h
    rw [Bool.and_eq_true]
    exact ⟨nd_lay h.1, nds_lay h.2⟩
end
theorem nd_sh {d : D} (h : SeqAt.shaped d = true) : ndD d = true := by
  simp only [SeqAt.shaped, Bool.and_eq_true] at h
  exact nd_lay h.1
section
variable {H H' Hf : Hp} {vs ws : List V} {ds es : List D} {v : V} {d : D}
theorem dps_len : ∀ {vs : List V} {ds : List D}, Dds H vs ds → vs.length = ds.length
  | _, _, .nil => rfl
  | _, _, .cons _ t => by rw [List.length_cons, List.length_cons, dps_len t]
theorem dps_get : ∀ {vs : List V} {ds : List D} {i : Nat} {d : D}, Dds H vs ds → ds[i]? = some d → ∃ v, vs[i]? = some v ∧ Dd H v d
  | _, _, _, _, .nil, e => by simp at e
  | _, _, 0, _, .cons h _, e => by simp at e; subst e; exact ⟨_, rfl, h⟩
  | _, _, i + 1, _, .cons _ t, e => by
    obtain ⟨v, h1, h2⟩ := dps_get (i := i) t (by simpa using e)
    exact ⟨v, by simpa using h1, h2⟩
theorem dps_app : ∀ {vs ws : List V} {ds es : List D}, Dds H vs ds → Dds H ws es → Dds H (vs ++ ws) (ds ++ es)
  | _, _, _, _, .nil, s => s
  | _, _, _, _, .cons h t, s => .cons h (dps_app t s)
theorem dps_take : ∀ (n : Nat) {vs : List V} {ds : List D}, Dds H vs ds → Dds H (vs.take n) (ds.take n)
  | 0, _, _, _ => .nil
  | _ + 1, _, _, .nil => .nil
  | n + 1, _, _, .cons h t => .cons h (dps_take n t)
theorem dps_drop : ∀ (n : Nat) {vs : List V} {ds : List D}, Dds H vs ds → Dds H (vs.drop n) (ds.drop n)
  | 0, _, _, h => h
  | _ + 1, _, _, .nil => .nil
  | n + 1, _, _, .cons _ t => dps_drop n t
theorem dps_set : ∀ {vs : List V} {ds : List D} {v : V} {d : D} (i : Nat), Dds H vs ds → Dd H v d → Dds H (vs.set i v) (ds.set i d)
  | _, _, _, _, _, .nil, _ => .nil
  | _, _, _, _, 0, .cons _ t, h => .cons h t
  | _, _, _, _, i + 1, .cons h' t, h => .cons h' (dps_set i t h)
end

/-- a thing that is locked; one that is not -/
def Frz (o : Option HO) : Prop := ∃ b u, o = some (.frz b u)
def Nf (o : Option HO) : Prop := ∀ b u, o ≠ some (.frz b u)
/-- the content of a cell at a -/
def RefC (ca : List Addr) (v : V) (i : Nat) : Prop := ∃ b, ca[i]? = some b ∧ v = .ref b
def SvOk (ca : List Addr) (Hf : Hp) : S → V → Prop
  | .no, _ => False
  | .d x, v => Dd Hf v x
  | .cel j, v => ∃ a, ca[j]? = some a ∧ v = .ref a
  | .fn a, v => v = .ref a
theorem SvOk.exS {ca : List Addr} {Hf Hf' : Hp} {s : S} {v : V} (h : SvOk ca Hf s v) (x : Ex Hf Hf') : SvOk ca Hf' s v := by
  cases s with
  | no => exact h
  | d z => exact dp_ex x h
  | cel j => exact h
  | fn b => exact h
theorem SvOk.upS {ca ca' : List Addr} {Hf : Hp} {s : S} {v : V} (h : SvOk ca Hf s v) (p : ca <+: ca') : SvOk ca' Hf s v := by
  cases s with
  | no => exact h
  | d z => exact h
  | cel j =>
    obtain ⟨b, e, z⟩ := h
    obtain ⟨t, rfl⟩ := p
    have q := List.getElem?_eq_some_iff.mp e
    exact ⟨b, by rw [List.getElem?_append_left q.1]; exact e, z⟩
  | fn b => exact h
/-- at a stands a dict whose keys are data -/
def entV (w : World) (x : NestedKey × Addr × Value) : DictEntry := ⟨x.1.hash w, .ref x.2.1, x.2.2⟩
def RawV (w : World) (a : Addr) (xs : List (NestedKey × Addr × Value)) (ep : Nat) : Heap → Prop := fun h => (a == sysModules) = false ∧ xs.length ≤ sizeLine ∧ ∃ o es, h.get? a = some o ∧ o.ExactDict ∧ o.data = .dict es ep ∧ es.toList = xs.map (entV w) ∧ (xs.map (·.1)).Nodup
def KeyV (Hf : Hp) (p : NestedKey × D) (q : NestedKey × Addr × Value) : Prop := p.1 = q.1 ∧ p.1.depth ≤ 8 ∧ Dd Hf (.ref q.2.1) p.1.data ∧ ∃ u, RelV u q.2.2 ∧ Dd Hf u p.2
theorem KeyV.ex {Hf Hf' : Hp} (x : Ex Hf Hf') {p : NestedKey × D} {q : NestedKey × Addr × Value} (z : KeyV Hf p q) : KeyV Hf' p q := by
  obtain ⟨z1, z2, z3, u, z4, z5⟩ := z
  exact ⟨z1, z2, dp_ex x z3, u, z4, dp_ex x z5⟩
def CellOk (ca : List Addr) (Hf H : Hp) (a : Addr) : OC → Prop
  | .lst xs => ∃ vs, H a = some (.lst vs) ∧ Dds Hf vs xs
  | .dK kvs => ∃ ws, H a = some (.dK ws) ∧ Paired (fun (p : Key × V) (q : Key × D) => p.1 = q.1 ∧ Dd Hf p.2 q.2) ws kvs
  | .dC kvs => ∃ ws, H a = some (.dK ws) ∧ Paired (fun (p : Key × V) (q : Key × Nat) => p.1 = q.1 ∧ RefC ca p.2 q.2) ws kvs
  | .dU kvs => ∃ ws, H a = some (.dT ws) ∧ Paired (fun (p : List Key × V) (q : List Key × Nat) => p.1 = q.1 ∧ RefC ca p.2 q.2) ws kvs
  | .lC is => ∃ vs, H a = some (.lst vs) ∧ Paired (RefC ca) vs is
  | .tk ks => H a = some (.tup (ks.map kV))
  | .fK kvs => ∃ b ws, H a = some (.frz b (.dK ws)) ∧ Paired (fun (p : Key × V) (q : Key × D) => p.1 = q.1 ∧ Dd Hf p.2 q.2) ws kvs
  | .ins C fs => ∃ dx vs, H a = some (.ins C dx vs) ∧ Paired (fun (p : Str × V) (q : Str × S) => p.1 = q.1 ∧ SvOk ca Hf q.2 p.2) vs fs
  | .dV w kvs => ∃ xs ep, H a = some (.ext (RawV w a xs ep)) ∧ Paired (KeyV Hf) kvs xs
/-- B: what is banned: the callers' things that are not ours -/
def RvOk (B : Hp) (ca : List Addr) (Hf H : Hp) : Rv → V → Prop
  | .d x, v => Dd Hf v x
  | .own o, v => ∃ a, v = .ref a ∧ CellOk [] Hf H a o ∧ Hf a = none ∧ a ∉ ca ∧ B a = none
  | .cel j, v => ∃ a, ca[j]? = some a ∧ v = .ref a
  | .pr x xs, v => ∃ a w b, v = .ref a ∧ H a = some (.lst [w, .ref b]) ∧ Dd Hf w x ∧ CellOk [] Hf H b (.lst xs) ∧ Hf b = none ∧ b ∉ ca ∧ B b = none
  | .cp j x, v => ∃ a b w, v = .ref a ∧ H a = some (.lst [.ref b, w]) ∧ ca[j]? = some b ∧ Dd Hf w x ∧ Hf a = none ∧ a ∉ ca ∧ B a = none
inductive SvsOk (ca : List Addr) (Hf : Hp) : List S → List V → Prop
  | nil : SvsOk ca Hf [] []
  | cons {s : S} {ss : List S} {v : V} {vs : List V} : SvOk ca Hf s v → SvsOk ca Hf ss vs → SvsOk ca Hf (s :: ss) (v :: vs)

structure Rel (B : Hp) (ca : List Addr) (ρ : List S) (cs : Store) (Hf : Hp) (σ : L2.St) (H : Hp) : Prop where
  ext : Ex Hf H
  len : σ.length = ρ.length
  sl : ∀ (i : Nat) (s : S), ρ[i]? = some s → s = .no ∨ ∃ v, σ[i]? = some (some v) ∧ SvOk ca Hf s v
  cells : ∀ (j : Nat) (o : OC), cs[j]? = some o → ∃ a, ca[j]? = some a ∧ CellOk ca Hf H a o
  lenc : ca.length = cs.length
  nd : ca.Nodup
  off : ∀ a ∈ ca, Hf a = none
  exb : Ex B H
  dis : ∀ a, B a ≠ none → Hf a = none ∧ (a ∉ ca ∨ Frz (B a))

structure Nx (ca : List Addr) (Hf : Hp) (ca' : List Addr) (Hf' : Hp) : Prop where
  pre : ca <+: ca'
  ex : Ex Hf Hf'
section
variable {B : Hp} {ca ca' ca'' : List Addr} {ρ : List S} {cs cs' : Store} {Hf Hf' Hf'' : Hp} {σ : L2.St} {H H' H'' : Hp} {s : S} {v : V} {r : Rv} {a : Addr} {o : OC}
theorem CellOk.some (h : CellOk ca Hf H a o) : H a ≠ none := by
  cases o with
  | lst xs => obtain ⟨vs, e, _⟩ := h; rw [e]; simp
  | dK kvs => obtain ⟨vs, e, _⟩ := h; rw [e]; simp
  | dC kvs => obtain ⟨vs, e, _⟩ := h; rw [e]; simp
  | dU kvs => obtain ⟨vs, e, _⟩ := h; rw [e]; simp
  | lC kvs => obtain ⟨vs, e, _⟩ := h; rw [e]; simp
  | tk ks => exact fun z => by rw [show H a = some (.tup (ks.map kV)) from h] at z; cases z
  | fK kvs => obtain ⟨b, vs, e, _⟩ := h; rw [e]; simp
  | ins C fs => obtain ⟨b, vs, e, _⟩ := h; rw [e]; simp
  | dV w kvs => obtain ⟨xs, ep, e, _⟩ := h; rw [e]; simp
theorem CellOk.at (h : CellOk ca Hf H a o) (e : H' a = H a) (x : Ex Hf Hf') : CellOk ca Hf' H' a o := by
  cases o with
  | lst xs => obtain ⟨vs, q, p⟩ := h; exact ⟨vs, e.trans q, dps_ex x p⟩
  | dK kvs => obtain ⟨vs, q, p⟩ := h; exact ⟨vs, e.trans q, Paired.mapP p fun _ _ z => ⟨z.1, dp_ex x z.2⟩⟩
  | dC kvs => obtain ⟨vs, q, p⟩ := h; exact ⟨vs, e.trans q, p⟩
  | dU kvs => obtain ⟨vs, q, p⟩ := h; exact ⟨vs, e.trans q, p⟩
  | lC kvs => obtain ⟨vs, q, p⟩ := h; exact ⟨vs, e.trans q, p⟩
  | tk ks => exact e.trans h
  | fK kvs => obtain ⟨b, vs, q, p⟩ := h; exact ⟨b, vs, e.trans q, Paired.mapP p fun _ _ z => ⟨z.1, dp_ex x z.2⟩⟩
  | ins C fs => obtain ⟨b, vs, q, p⟩ := h; exact ⟨b, vs, e.trans q, Paired.mapP p fun _ _ z => ⟨z.1, z.2.exS x⟩⟩
  | dV w kvs => obtain ⟨xs, ep, q, p⟩ := h; exact ⟨xs, ep, e.trans q, Paired.mapP p fun _ _ z => z.ex x⟩
theorem RefC.up {i : Nat} (h : RefC ca v i) (p : ca <+: ca') : RefC ca' v i := by
  obtain ⟨b, e, z⟩ := h
  obtain ⟨t, rfl⟩ := p
  exact ⟨b, by rw [List.getElem?_append_left (List.getElem?_eq_some_iff.mp e).1]; exact e, z⟩
theorem CellOk.up (h : CellOk ca Hf H a o) (p : ca <+: ca') : CellOk ca' Hf H a o := by
  cases o with
  | lst xs => exact h
  | dK kvs => exact h
  | dC kvs => obtain ⟨vs, q, z⟩ := h; exact ⟨vs, q, Paired.mapP z fun _ _ z => ⟨z.1, z.2.up p⟩⟩
  | dU kvs => obtain ⟨vs, q, z⟩ := h; exact ⟨vs, q, Paired.mapP z fun _ _ z => ⟨z.1, z.2.up p⟩⟩
  | lC kvs => obtain ⟨vs, q, z⟩ := h; exact ⟨vs, q, Paired.mapP z fun _ _ z => z.up p⟩
  | tk ks => exact h
  | fK kvs => exact h
  | ins C fs => obtain ⟨b, vs, q, z⟩ := h; exact ⟨b, vs, q, Paired.mapP z fun _ _ z => ⟨z.1, z.2.upS p⟩⟩
  | dV w kvs => exact h
theorem CellOk.of_pl (h : CellOk ca Hf H a o) (p : o.pl = true) : CellOk ca' Hf H a o := by
  cases o with
  | lst xs => exact h
  | dK kvs => exact h
  | dC kvs => cases p
  | dU kvs => cases p
  | lC kvs => cases p
  | tk ks => exact h
  | fK kvs => cases p
  | ins C fs => cases p
  | dV w kvs => exact h
theorem CellOk.nf (h : CellOk ca Hf H a o) (p : o.pl = true) : Nf (H a) := by
  intro b u z
  cases o with
  | lst xs => obtain ⟨vs, e, _⟩ := h; rw [e] at z; cases z
  | dK kvs => obtain ⟨vs, e, _⟩ := h; rw [e] at z; cases z
  | tk ks => have h2 : H a = Option.some (HO.tup (ks.map kV)) := h; rw [h2] at z; cases z
  | dV w kvs => obtain ⟨xs, ep, e, _⟩ := h; rw [e] at z; cases z
  | _ => cases p
theorem Rel.bn (r : Rel B ca ρ cs Hf σ H) (ma : a ∈ ca) (hm : Nf (H a)) : B a = none := by
  cases q : B a with
  | none => rfl
  | some u =>
    rcases (r.dis a (by rw [q]; simp)).2 with z | ⟨b, w, z⟩
    · exact absurd ma z
    · exact absurd (r.exb a _ z) (hm b w)
theorem Rel.disn (r : Rel B ca ρ cs Hf σ H) {w : HO} (h : B a = some w) (hn : ∀ b u, w ≠ .frz b u) : Hf a = none ∧ a ∉ ca := by
  obtain ⟨h1, h2⟩ := r.dis a (by rw [h]; simp)
  refine ⟨h1, ?_⟩
  rcases h2 with z | ⟨b, u, z⟩
  · exact z
  · rw [h] at z; cases z; exact absurd rfl (hn _ _)
theorem Rel.there (r : Rel B ca ρ cs Hf σ H) (ha : a ∈ ca) : H a ≠ none := by
  obtain ⟨j, hj, e⟩ := List.mem_iff_getElem.mp ha
  have hj' : j < cs.length := by rw [← r.lenc]; exact hj
  obtain ⟨b, h1, h2⟩ := r.cells j cs[j] (by simp [hj'])
  have : b = a := by
    rw [List.getElem?_eq_getElem hj] at h1
    rw [← e]; exact (Option.some.inj h1).symm
  subst this
  exact h2.some
theorem Nx.refl : Nx ca Hf ca Hf := ⟨List.prefix_refl _, fun _ _ h => h⟩
theorem Nx.trans (x : Nx ca Hf ca' Hf') (y : Nx ca' Hf' ca'' Hf'') : Nx ca Hf ca'' Hf'' := ⟨x.pre.trans y.pre, fun a o h => y.ex a o (x.ex a o h)⟩
theorem SvOk.nx (h : SvOk ca Hf s v) (x : Nx ca Hf ca' Hf') : SvOk ca' Hf' s v := by
  cases s with
  | no => exact h
  | d d => exact dp_ex x.ex h
  | fn a => exact h
  | cel j =>
    obtain ⟨a, e, z⟩ := h
    exact ⟨a, by
      obtain ⟨t, rfl⟩ := x.pre
      rw [List.getElem?_append_left (List.getElem?_eq_some_iff.mp e).1]
      exact e, z⟩
theorem SvsOk.nx {ss : List S} {vs : List V} (h : SvsOk ca Hf ss vs) (x : Nx ca Hf ca' Hf') : SvsOk ca' Hf' ss vs := by
  induction h with
  | nil => exact .nil
  | cons h _ ih => exact .cons (h.nx x) ih
theorem SvsOk.len {ss : List S} {vs : List V} (h : SvsOk ca Hf ss vs) : ss.length = vs.length := by
  induction h with
  | nil => rfl
  | cons _ _ ih => simp [ih]
theorem SvsOk.get {ss : List S} {vs : List V} (h : SvsOk ca Hf ss vs) {i : Nat} {s : S} (e : ss[i]? = some s) : ∃ v, vs[i]? = some v ∧ SvOk ca Hf s v := by
  induction h generalizing i with
  | nil => simp at e
  | cons h _ ih =>
    cases i with
    | zero => simp at e; subst e; exact ⟨_, rfl, h⟩
    | succ i =>
      obtain ⟨v, h1, h2⟩ := ih (i := i) (by simpa using e)
      exact ⟨v, by simpa using h1, h2⟩
/-- slots of another kind over the same heap -/
theorem Rel.slots {ρ' : List S} {σ' : L2.St} (r : Rel B ca ρ cs Hf σ H) (hl : σ'.length = ρ'.length) (h : ∀ (i : Nat) (s : S), ρ'[i]? = some s → s = .no ∨ ∃ v, σ'[i]? = some (some v) ∧ SvOk ca Hf s v) : Rel B ca ρ' cs Hf σ' H :=
  ⟨r.ext, hl, h, r.cells, r.lenc, r.nd, r.off, r.exb, r.dis⟩
/-- the slots of an earlier state -/
theorem Rel.back {ρ' : List S} {σ' : L2.St} {cs0 : Store} (r0 : Rel B ca ρ' cs0 Hf σ' H) (x : Nx ca Hf ca' Hf') (r : Rel B ca' ρ cs' Hf' σ H') : Rel B ca' ρ' cs' Hf' σ' H' :=
  r.slots r0.len fun i s e => by
    rcases r0.sl i s e with z | ⟨v, h1, h2⟩
    · exact .inl z
    · exact .inr ⟨v, h1, h2.nx x⟩
theorem Rel.get (r : Rel B ca ρ cs Hf σ H) {i : Nat} {s : S} (e : ρ[i]? = some s) (n : s ≠ .no) : ∃ v, σ[i]? = some (some v) ∧ SvOk ca Hf s v := by
  rcases r.sl i s e with z | z
  · exact absurd z n
  · exact z
theorem Rel.set (r : Rel B ca ρ cs Hf σ H) (i : Nat) (h : SvOk ca Hf s v) : Rel B ca (ρ.set i s) cs Hf (σ.set i (some v)) H :=
  r.slots (by simp [r.len]) fun j t e => by
    by_cases hj : i = j
    · subst hj
      by_cases hi : i < ρ.length
      · rw [List.getElem?_set_self hi] at e
        cases e
        exact .inr ⟨v, List.getElem?_set_self (by rw [r.len]; exact hi), h⟩
      · rw [List.getElem?_eq_none (by simpa using hi)] at e; cases e
    · rw [List.getElem?_set_ne hj] at e
      rcases r.sl j t e with z | ⟨w, h1, h2⟩
      · exact .inl z
      · exact .inr ⟨w, by rw [List.getElem?_set_ne hj]; exact h1, h2⟩
/-- a slot forgotten -/
theorem Rel.lose (r : Rel B ca ρ cs Hf σ H) (i : Nat) (x : Option V) : Rel B ca (ρ.set i .no) cs Hf (σ.set i x) H :=
  r.slots (by simp [r.len]) fun j t e => by
    by_cases hj : i = j
    · subst hj
      by_cases hi : i < ρ.length
      · rw [List.getElem?_set_self hi] at e; cases e; exact .inl rfl
      · rw [List.getElem?_eq_none (by simpa using hi)] at e; cases e
    · rw [List.getElem?_set_ne hj] at e
      rcases r.sl j t e with z | ⟨w, h1, h2⟩
      · exact .inl z
      · exact .inr ⟨w, by rw [List.getElem?_set_ne hj]; exact h1, h2⟩
/-- an object of the heap is frozen -/
theorem Rel.freeze {o : HO} {p : Addr} (r : Rel B ca ρ cs Hf σ H) (hp : H p = some o) (n : Hf p = none) (hc : p ∉ ca) (hb : B p = none) : Rel B ca ρ cs (upd Hf p o) σ H ∧ Ex Hf (upd Hf p o) := by
  have e : Ex Hf (upd Hf p o) := fun a u h => by
    by_cases q : a = p
    · subst q; rw [n] at h; cases h
    · rw [upd_ne q]; exact h
  refine ⟨⟨fun a u h => ?_, r.len, fun i s q => ?_, fun j u q => ?_, r.lenc, r.nd, fun a m => ?_, r.exb, fun a m => ?_⟩, e⟩
  · by_cases q : a = p
    · subst q; rw [upd_same] at h; cases h; exact hp
    · rw [upd_ne q] at h; exact r.ext a u h
  · rcases r.sl i s q with z | ⟨v, h1, h2⟩
    · exact .inl z
    · exact .inr ⟨v, h1, h2.nx ⟨List.prefix_refl _, e⟩⟩
  · obtain ⟨a, h1, h2⟩ := r.cells j u q
    exact ⟨a, h1, h2.at rfl e⟩
  · rw [upd_ne (fun (z : a = p) => hc (z ▸ m))]; exact r.off a m
  · obtain ⟨h1, h2⟩ := r.dis a m
    exact ⟨by rw [upd_ne (fun (z : a = p) => m (z ▸ hb))]; exact h1, h2⟩
theorem Rel.newIn (r : Rel B ca ρ cs Hf σ H) {p : Addr} (hp : H p = none) : Hf p = none ∧ p ∉ ca ∧ B p = none := by
  refine ⟨?_, fun m => r.there m hp, ?_⟩
  · cases q : Hf p with
    | none => rfl
    | some u => rw [r.ext p u q] at hp; cases hp
  · cases q : B p with
    | none => rfl
    | some u => rw [r.exb p u q] at hp; cases hp
/-- the heap grows -/
theorem Rel.grow (r : Rel B ca ρ cs Hf σ H) (e : Ex H H') : Rel B ca ρ cs Hf σ H' :=
  ⟨fun a u h => e a u (r.ext a u h), r.len, r.sl, fun j u q => by
    obtain ⟨a, h1, h2⟩ := r.cells j u q
    refine ⟨a, h1, h2.at ?_ fun _ _ h => h⟩
    cases z : H a with
    | none => exact absurd z h2.some
    | some w => exact e a w z, r.lenc, r.nd, r.off, fun a u h => e a u (r.exb a u h), r.dis⟩
theorem ex_new {o : HO} {p : Addr} (hp : H p = none) : Ex H (upd H p o) := fun a u h => by rw [upd_ne (ne_of_none h hp)]; exact h
/-- a new object, frozen -/
theorem Rel.news {o : HO} {p : Addr} (r : Rel B ca ρ cs Hf σ H) (hp : H p = none) : Rel B ca ρ cs (upd Hf p o) σ (upd H p o) ∧ Nx ca Hf ca (upd Hf p o) := by
  obtain ⟨n1, n2, n3⟩ := r.newIn hp
  obtain ⟨r2, e2⟩ := (r.grow (ex_new (o := o) hp)).freeze (p := p) (o := o) upd_same n1 n2 n3
  exact ⟨r2, List.prefix_refl _, e2⟩
/-- an own object is frozen -/
theorem Rel.own {xs : List D} (r : Rel B ca ρ cs Hf σ H) (h : RvOk B ca Hf H (.own (.lst xs)) v) : ∃ Hf', Rel B ca ρ cs Hf' σ H ∧ Nx ca Hf ca Hf' ∧ Dd Hf' v (.list xs) := by
  obtain ⟨a, rfl, ⟨vs, h1, h2⟩, h3, h4, h5⟩ := h
  obtain ⟨r', e⟩ := r.freeze h1 h3 h4 h5
  exact ⟨_, r', ⟨List.prefix_refl _, e⟩, .lst (.inl upd_same) (dps_ex e h2)⟩
/-- an own object becomes a cell -/
theorem Rel.alloc (r : Rel B ca ρ cs Hf σ H) (h : RvOk B ca Hf H (.own o) v) : ∃ a, v = .ref a ∧ Rel B (ca ++ [a]) ρ (cs ++ [o]) Hf σ H ∧ (ca ++ [a])[cs.length]? = some a := by
  obtain ⟨a, rfl, h1, h2, h3, h4⟩ := h
  refine ⟨a, rfl, ⟨r.ext, r.len, fun i s q => ?_, fun j u q => ?_, by simp [r.lenc], ?_, fun b m => ?_, r.exb, fun b m => ?_⟩, by rw [← r.lenc]; simp⟩
  · rcases r.sl i s q with z | ⟨v, g1, g2⟩
    · exact .inl z
    · exact .inr ⟨v, g1, g2.nx ⟨List.prefix_append _ _, fun _ _ h => h⟩⟩
  · by_cases hj : j < cs.length
    · rw [List.getElem?_append_left hj] at q
      obtain ⟨b, g1, g2⟩ := r.cells j u q
      exact ⟨b, by rw [List.getElem?_append_left (by rw [r.lenc]; exact hj)]; exact g1, g2.up (List.prefix_append _ _)⟩
    · have hj2 : j = cs.length := by
        have := (List.getElem?_eq_some_iff.mp q).1
        simp at this; omega
      subst hj2
      simp at q; subst q
      exact ⟨a, by rw [← r.lenc]; simp, h1.up (List.nil_prefix)⟩
  · rw [List.nodup_append]
    refine ⟨r.nd, by simp, fun x hx y hy => ?_⟩
    simp at hy; subst hy
    exact fun z => h3 (z ▸ hx)
  · rcases List.mem_append.mp m with z | z
    · exact r.off b z
    · simp at z; subst z; exact h2
  · obtain ⟨g1, g2⟩ := r.dis b m
    refine ⟨g1, ?_⟩
    rcases g2 with g2 | g2
    · refine .inl fun q => ?_
      rcases List.mem_append.mp q with z | z
      · exact g2 z
      · simp at z; subst z; exact m h4
    · exact .inr g2
/-- a cell is written -/
theorem Rel.write {j : Nat} {u : HO} (r : Rel B ca ρ cs Hf σ H) (hj : ca[j]? = some a) (hm : Nf (H a)) (h : CellOk ca Hf (upd H a u) a o) : Rel B ca ρ (cs.set j o) Hf σ (upd H a u) := by
  have ma : a ∈ ca := List.mem_of_getElem? hj
  refine ⟨fun b w q => ?_, r.len, r.sl, fun i w q => ?_, by simp [r.lenc], r.nd, r.off, fun b w q => ?_, r.dis⟩
  · by_cases e : b = a
    · subst e; rw [r.off b ma] at q; cases q
    · rw [upd_ne e]; exact r.ext b w q
  · by_cases e : j = i
    · subst e
      have hi : j < cs.length := by rw [← r.lenc]; exact (List.getElem?_eq_some_iff.mp hj).1
      rw [List.getElem?_set_self hi] at q
      cases q
      exact ⟨a, hj, h⟩
    · rw [List.getElem?_set_ne e] at q
      obtain ⟨b, g1, g2⟩ := r.cells i w q
      refine ⟨b, g1, g2.at (upd_ne ?_) fun _ _ h => h⟩
      intro z
      subst z
      exact e (nd_ix r.nd hj g1)
  · by_cases e : b = a
    · subst e
      rw [r.bn ma hm] at q; cases q
    · rw [upd_ne e]; exact r.exb b w q
theorem Rel.cell (r : Rel B ca ρ cs Hf σ H) {j : Nat} (e : cs[j]? = some o) (h : ca[j]? = some a) : CellOk ca Hf H a o := by
  obtain ⟨b, g1, g2⟩ := r.cells j o e
  rw [h] at g1; cases g1; exact g2
end

section
variable (X : Cx) (W : WX)
def Gs {α : Type} (B : Hp) (ca : List Addr) (Hf : Hp) (ρ : List S) (σ : L2.St) (res : Res α) (P : List Addr → Hp → Hp → Store → α → Prop) : Prop :=
  match res with
  | .ok a cs' => ∀ ca' Hf' H', Nx ca Hf ca' Hf' → Rel B ca' ρ cs' Hf' σ H' → P ca' Hf' H' cs' a
  | .er c cs' => ∀ ca' Hf' H' cls, Nx ca Hf ca' Hf' → Rel B ca' ρ cs' Hf' σ H' → X.mg c = some cls → W cls none σ H'
  | .no => False
/-- an expression -/
def DE (e : Expr) (f : List S → M S) : Prop := ∃ t : TE, PE X e t ∧ ∀ (B : Hp) (ca : List Addr) (ρ : List S) (cs : Store) (Hf : Hp) (σ : L2.St) (H : Hp) (Q : VK), Rel B ca ρ cs Hf σ H →
  Gs X W B ca Hf ρ σ (f ρ cs) (fun ca' Hf' H' _ s => ∀ v, SvOk ca' Hf' s v → Q v H') → t σ H Q
/-- an expression whose value may be a new object -/
def DO (e : Expr) (f : List S → M Rv) : Prop := ∃ t : TE, PE X e t ∧ ∀ (B : Hp) (ca : List Addr) (ρ : List S) (cs : Store) (Hf : Hp) (σ : L2.St) (H : Hp) (Q : VK), Rel B ca ρ cs Hf σ H →
  Gs X W B ca Hf ρ σ (f ρ cs) (fun ca' Hf' H' _ r => ∀ v, RvOk B ca' Hf' H' r v → Q v H') → t σ H Q
def DT (e : Expr) (f : List S → M Bool) : Prop := ∃ t : TT, PT X e t ∧ ∀ (B : Hp) (ca : List Addr) (ρ : List S) (cs : Store) (Hf : Hp) (σ : L2.St) (H : Hp) (Q : Bool → Hp → Prop), Rel B ca ρ cs Hf σ H →
  Gs X W B ca Hf ρ σ (f ρ cs) (fun _ _ H' _ b => Q b H') → t σ H Q
def DW (e : Expr) (f : List S → M Bool) : Prop := ∃ t : TT, PW X e t ∧ ∀ (B : Hp) (ca : List Addr) (ρ : List S) (cs : Store) (Hf : Hp) (σ : L2.St) (H : Hp) (Q : Bool → Hp → Prop), Rel B ca ρ cs Hf σ H →
  Gs X W B ca Hf ρ σ (f ρ cs) (fun _ _ H' _ b => Q b H') → t σ H Q
def DA (es : List Expr) (f : List S → M (List S)) : Prop := ∃ t : TA, PA X es t ∧ ∀ (B : Hp) (ca : List Addr) (ρ : List S) (cs : Store) (Hf : Hp) (σ : L2.St) (H : Hp) (Q : List V → Hp → Prop), Rel B ca ρ cs Hf σ H →
  Gs X W B ca Hf ρ σ (f ρ cs) (fun ca' Hf' H' _ ss => ∀ vs, SvsOk ca' Hf' ss vs → Q vs H') → t σ H Q
end
section
variable {X : Cx} {W : WX} {B : Hp} {ca : List Addr} {Hf H : Hp} {ρ : List S} {σ : L2.St} {cs : Store} {α β : Type} {P P' : List Addr → Hp → Hp → Store → α → Prop}
theorem Gs.mono {res : Res α} (h : Gs X W B ca Hf ρ σ res P) (m : ∀ ca' Hf' H' cs' a, Nx ca Hf ca' Hf' → Rel B ca' ρ cs' Hf' σ H' → P ca' Hf' H' cs' a → P' ca' Hf' H' cs' a) : Gs X W B ca Hf ρ σ res P' := by
  cases res with
  | ok a cs' => exact fun ca' Hf' H' n r => m _ _ _ _ _ n r (h ca' Hf' H' n r)
  | er c cs' => exact h
  | no => exact h
theorem Gs.fwd {res : Res α} {ca1 : List Addr} {Hf1 : Hp} (h : Gs X W B ca Hf ρ σ res P) (n : Nx ca Hf ca1 Hf1) : Gs X W B ca1 Hf1 ρ σ res P := by
  cases res with
  | ok a cs' => exact fun ca' Hf' H' n' r => h ca' Hf' H' (n.trans n') r
  | er c cs' => exact fun ca' Hf' H' cls n' r => h ca' Hf' H' cls (n.trans n') r
  | no => exact h
theorem Gs.bind {m : M α} {k : α → M β} {P : List Addr → Hp → Hp → Store → β → Prop} (h : Gs X W B ca Hf ρ σ (bnd m k cs) P) :
    Gs X W B ca Hf ρ σ (m cs) (fun ca1 Hf1 _ cs1 a => Gs X W B ca1 Hf1 ρ σ (k a cs1) P) := by
  unfold bnd at h
  cases e : m cs with
  | ok a cs1 => rw [e] at h; exact fun ca1 Hf1 H1 n r => Gs.fwd h n
  | er c cs1 => rw [e] at h; exact h
  | no => rw [e] at h; exact h
theorem Gs.ret_ {a : α} (h : Gs X W B ca Hf ρ σ (ret a cs) P) (r : Rel B ca ρ cs Hf σ H) : P ca Hf H cs a := h ca Hf H Nx.refl r
theorem Gs.ofO_ {o : Option α} (h : Gs X W B ca Hf ρ σ (ofO o cs) P) (r : Rel B ca ρ cs Hf σ H) : ∃ a, o = some a ∧ P ca Hf H cs a := by
  cases o with
  | none => exact h.elim
  | some a => exact ⟨a, rfl, h ca Hf H Nx.refl r⟩
end
end Dn

set_option Elab.async false
set_option linter.all false
set_option maxRecDepth 100000
set_option maxHeartbeats 1000000
namespace Dn
open PySem L2

def Lv (Hf H : Hp) (v : V) (d : D) : Prop := Dd H v d ∧ match d with
  | .list xs => ∃ a vs, v = .ref a ∧ Rd H a (.lst vs) ∧ Dds Hf vs xs
  | .tuple xs => (∃ a vs, v = .ref a ∧ Rd H a (.tup vs) ∧ Dds Hf vs xs) ∧ Dd Hf v d
  | _ => Dd Hf v d
def vw : S → Store → Option D
  | .d x, _ => some x
  | .cel j, cs => match cs[j]? with
    | some (.lst xs) => some (.list xs)
    | _ => none
  | _, _ => none
def vwM (s : S) : M D := fun cs => match vw s cs with
  | some d => .ok d cs
  | none => .no
section
variable {B : Hp} {ca ca' : List Addr} {ρ : List S} {cs : Store} {Hf Hf' : Hp} {σ : L2.St} {H H' : Hp} {s : S} {v w : V} {d : D} {o : OC}
theorem Lv.of (e : Ex Hf H) (h : Dd Hf v d) : Lv Hf H v d := by
  refine ⟨dp_ex e h, ?_⟩
  cases h with
  | lst h a => exact ⟨_, _, rfl, rd_ex e h, a⟩
  | tup h a => exact ⟨⟨_, _, rfl, rd_ex e h.rd, a⟩, .tup h a⟩
  | non => exact .non
  | bl b => exact .bl b
  | int i => exact .int i
  | str x => exact .str x
  | dic h => exact .dic h
theorem vw_ok (r : Rel B ca ρ cs Hf σ H) (h : SvOk ca Hf s v) (e : vw s cs = some d) : Lv Hf H v d := by
  cases s with
  | no => exact h.elim
  | fn a => cases e
  | d x =>
    have : x = d := Option.some.inj e
    subst this
    exact Lv.of r.ext h
  | cel j =>
    obtain ⟨a, h1, rfl⟩ := h
    have e' : (match cs[j]? with
      | some (.lst xs) => some (.list xs)
      | _ => none) = some d := e
    split at e'
    · rename_i xs q
      cases e'
      obtain ⟨vs, g1, g2⟩ := r.cell q h1
      exact ⟨.lst (.inl g1) (dps_ex r.ext g2), a, vs, rfl, .inl g1, g2⟩
    · cases e'
theorem Lv.flat (h : Lv Hf H v d) (n : ∀ xs, d ≠ .list xs) : Dd Hf v d := by
  obtain ⟨_, h⟩ := h
  cases d with
  | list xs => exact absurd rfl (n xs)
  | tuple xs => exact h.2
  | _ => exact h
theorem Lv.lst {xs : List D} (h : Lv Hf H v (.list xs)) : ∃ a vs, v = .ref a ∧ Rd H a (.lst vs) ∧ Dds Hf vs xs := h.2
theorem Lv.tup {xs : List D} (h : Lv Hf H v (.tuple xs)) : ∃ a vs, v = .ref a ∧ Rd H a (.tup vs) ∧ Dds Hf vs xs := h.2.1
theorem Lv.int_ {i : Int} (h : Lv Hf H v (.int i)) : v = .int i := by cases h.1; rfl
theorem Lv.str_ {x : Str} (h : Lv Hf H v (.str x)) : v = .str x := by cases h.1; rfl
theorem Lv.bl_ {x : Bool} (h : Lv Hf H v (.bool x)) : v = .bl x := by cases h.1; rfl
/-- the heap grows by frozen things -/
structure Gw (Hf H Hf' H' : Hp) : Prop where
  ex : Ex Hf Hf'
  kp : Ex H H'
  ext : Ex Hf' H'
  nhf : ∀ a, Hf' a ≠ none → Hf a ≠ none ∨ H a = none
theorem Gw.refl (e : Ex Hf H) : Gw Hf H Hf H := ⟨fun _ _ h => h, fun _ _ h => h, e, fun _ h => .inl h⟩
theorem Gw.new {o : HO} {p : Addr} (e : Ex Hf H) (hp : H p = none) : Gw Hf H (upd Hf p o) (upd H p o) := by
  have nf : Hf p = none := by
    cases q : Hf p with
    | none => rfl
    | some u => rw [e p u q] at hp; cases hp
  refine ⟨ex_new nf, ex_new hp, fun a u h => ?_, fun a h => ?_⟩
  · by_cases q : a = p
    · subst q; rw [upd_same] at h ⊢; exact h
    · rw [upd_ne q] at h ⊢; exact e a u h
  · by_cases q : a = p
    · exact .inr (q ▸ hp)
    · rw [upd_ne q] at h; exact .inl h
theorem Rel.gw (r : Rel B ca ρ cs Hf σ H) (g : Gw Hf H Hf' H') : Rel B ca ρ cs Hf' σ H' ∧ Nx ca Hf ca Hf' := by
  have n : Nx ca Hf ca Hf' := ⟨List.prefix_refl _, g.ex⟩
  have no : ∀ a, H a ≠ none → Hf a = none → Hf' a = none := fun a h1 h2 => by
    cases q : Hf' a with
    | none => rfl
    | some u =>
      rcases g.nhf a (by rw [q]; simp) with z | z
      · exact absurd h2 z
      · exact absurd z h1
  refine ⟨⟨g.ext, r.len, fun i s q => ?_, fun j u q => ?_, r.lenc, r.nd, fun a m => no a (r.there m) (r.off a m), fun a u h => g.kp a u (r.exb a u h), fun a m => ?_⟩, n⟩
  · rcases r.sl i s q with z | ⟨v, h1, h2⟩
    · exact .inl z
    · exact .inr ⟨v, h1, h2.nx n⟩
  · obtain ⟨a, h1, h2⟩ := (r.grow g.kp).cells j u q
    exact ⟨a, h1, h2.at rfl g.ex⟩
  · obtain ⟨h1, h2⟩ := r.dis a m
    refine ⟨no a ?_ h1, h2⟩
    cases q : B a with
    | none => exact absurd q m
    | some u => rw [r.exb a u q]; simp
end

def rD (g : D → D → Option D) : R2 := fun x y H Q => ∃ Hf da db d, g da db = some d ∧ Ex Hf H ∧ Lv Hf H x da ∧ Lv Hf H y db ∧ ∀ v Hf' H', Gw Hf H Hf' H' → Dd Hf' v d → Q v H'
def rDb (g : D → D → Option Bool) : R2 := fun x y H Q => ∃ Hf da db b, g da db = some b ∧ Ex Hf H ∧ Lv Hf H x da ∧ Lv Hf H y db ∧ Q (.bl b) H
def addD : D → D → Option D
  | .int i, .int j => some (.int (i + j))
  | .str x, .str y => if x.length + y.length ≤ sizeLine then some (.str (x ++ y)) else none
  | .tuple xs, .tuple ys => if xs.length + ys.length ≤ sizeLine then some (.tuple (xs ++ ys)) else none
  | .list xs, .list ys => if xs.length + ys.length ≤ sizeLine then some (.list (xs ++ ys)) else none
  | _, _ => none
def subD : D → D → Option D
  | .int i, .int j => some (.int (i - j))
  | _, _ => none
def mulD : D → D → Option D
  | .int i, .int j => if i.natAbs.log2 + j.natAbs.log2 < 1000000 then some (.int (i * j)) else none
  | _, _ => none
def fdivD : D → D → Option D
  | .int i, .int j => if 0 < j ∧ j.natAbs.log2 < 9000 then some (.int (i / j)) else none
  | _, _ => none
def modD : D → D → Option D
  | .int i, .int j => if 0 < j then some (.int (i % j)) else none
  | _, _ => none
def powD : D → D → Option D
  | .int i, .int j => if 0 ≤ j ∧ j ≤ 1000000 ∧ i.natAbs < 2 ^ 64 then some (.int (i ^ j.toNat)) else none
  | _, _ => none
def scalD : D → D → Bool
  | .none, .none => true | .none, .int _ => true | .int _, .none => true | .none, .bool _ => true | .bool _, .none => true | .none, .str _ => true | .str _, .none => true
  | .int _, .int _ => true | .bool _, .bool _ => true | .str _, .str _ => true
  | .int _, .str _ => true | .str _, .int _ => true | .bool _, .str _ => true | .str _, .bool _ => true
  | _, _ => false
def eqD (a b : D) : Option Bool := if scalD a b || (SeqAt.shaped a && SeqAt.shaped b) then some (PyData.eqv a b) else none
def neD (a b : D) : Option Bool := (eqD a b).map (!·)
def ltD : D → D → Option Bool
  | .int i, .int j => some (decide (i < j))
  | .str x, .str y => some (decide (x.cps.toList < y.cps.toList))
  | _, _ => none
def leD : D → D → Option Bool
  | .int i, .int j => some (decide (i ≤ j))
  | _, _ => none
def gtD : D → D → Option Bool
  | .int i, .int j => some (decide (j < i))
  | _, _ => none
def geD : D → D → Option Bool
  | .int i, .int j => some (decide (j ≤ i))
  | _, _ => none
def flatD : D → Bool
  | .none => true | .bool _ => true | .int _ => true | .str _ => true
  | _ => false
def inD (x : D) : D → Option Bool
  | .list ys => if flatD x && ys.all flatD || (SeqAt.shaped x && SeqAt.shaped (.list ys)) then some (ys.any fun y => PyData.eqv y x) else none
  | .tuple ys => if flatD x && ys.all flatD then some (ys.any fun y => PyData.eqv y x) else none
  | .str z => match x with
    | .str c => if c.length = 1 then some (decide (c.cps.getD 0 0 ∈ z.cps.toList)) else none
    | _ => none
  | _ => none
def ninD (x ys : D) : Option Bool := (inD x ys).map (!·)
def isnD : D → Option Bool
  | .none => some true
  | _ => some false
def lenD : D → Option Nat
  | .str x => if x.length ≤ sizeLine then some x.length else none
  | .list xs => some xs.length
  | .tuple xs => some xs.length
  | _ => none
def ixD : D → D → Option D
  | .list xs, .int i => atI xs i
  | .tuple xs, .int i => atI xs i
  | .str z, .int i => if z.length ≤ sizeLine then (atI z.cps.toList i).map fun c => .str ⟨#[c]⟩ else none
  | _, _ => none
def truD : D → Option Bool
  | .none => some false
  | .bool b => some b
  | .int i => some (i != 0)
  | .str x => if x.length ≤ sizeLine then some (x.length != 0) else none
  | .list xs => some (!xs.isEmpty)
  | .tuple xs => some (!xs.isEmpty)
  | .dict _ => none
def cutD (xs : List D) (lo hi : Option Int) : List D := (xs.drop (HT.sIx xs.length 0 lo)).take (HT.sIx xs.length xs.length hi - HT.sIx xs.length 0 lo)
/-- the types' names -/
def tyD : D → String
  | .none => "NoneType" | .bool _ => "bool" | .int _ => "int" | .str _ => "str" | .list _ => "list" | .tuple _ => "tuple" | .dict _ => "dict"
def isaD (T : String) : D → Bool
  | .none => T == "NoneType" | .bool _ => T == "bool" || T == "int" | .int _ => T == "int" | .str _ => T == "str" | .list _ => T == "list" | .tuple _ => T == "tuple" | .dict _ => T == "dict"

section
variable {X : Cx} {pins : List (Addr × Obj)} {σ : L2.St} {H Hf Hf' : Hp} {s : Shared} {l b : Addr} {xs ys zs : List V} {v : V} {d : D} {ds : List D}
theorem Inv.rdl (I : Inv X pins σ H s) (h : Rd H l (.lst xs)) : xs.length ≤ sizeLine ∧ ∃ (its : List Value) (n : Nat), Vals xs its ∧ xs.length = its.length ∧ s.heap.get? l = some { cls := .type "list", data := .seq its.toArray n } := by
  obtain ⟨z, its, n, r, e⟩ := h.ok I.hok
  exact ⟨z, its, n, r, r.length, e⟩
theorem add_ok : OpR X (binaryOp .Add) (rD addD) := by
  intro pins s σ H x y v u Q I rx ry h
  obtain ⟨Hf, da, db, d, e, ex, ha, hb, q⟩ := h
  unfold addD at e
  split at e
  · cases e
    have := ha.int_; subst this
    have := hb.int_; subst this
    exact op_add pins s σ H _ _ v u Q I rx ry ⟨_, _, rfl, rfl, q _ _ _ (Gw.refl ex) (.int _)⟩
  · split at e
    · cases e
      have := ha.str_; subst this
      have := hb.str_; subst this
      exact op_add_str pins s σ H _ _ v u Q I rx ry ⟨_, _, rfl, rfl, by assumption, q _ _ _ (Gw.refl ex) (.str _)⟩
    · cases e
  · rename_i ds es
    split at e
    · rename_i hz
      cases e
      obtain ⟨a, vs, rfl, h1, h2⟩ := ha.tup
      obtain ⟨a', vs', rfl, h1', h2'⟩ := hb.tup
      have l1 := dps_len h2
      have l2 := dps_len h2'
      refine op_catF pins s σ H _ _ v u Q I rx ry ⟨a, a', vs, vs', rfl, rfl, .inl h1, .inl h1', by omega, fun z => ?_, fun z z' => ?_, fun z z' p o hp ho => ?_⟩
      · have : ds = [] := by rw [z] at l1; exact List.length_eq_zero_iff.mp l1.symm
        subst this
        exact q _ _ _ (Gw.refl ex) (hb.flat fun _ z => nomatch z)
      · have : es = [] := by rw [z'] at l2; exact List.length_eq_zero_iff.mp l2.symm
        subst this
        rw [List.append_nil] at q
        exact q _ _ _ (Gw.refl ex) (ha.flat fun _ z => nomatch z)
      · have g := Gw.new (o := .frz o (.tup (vs ++ vs'))) ex hp
        exact q _ _ _ g (.tup ⟨o, upd_same, ho⟩ (dps_ex g.ex (dps_app h2 h2')))
    · cases e
  · rename_i ds es
    split at e
    · rename_i hz
      cases e
      obtain ⟨a, vs, rfl, h1, h2⟩ := ha.lst
      obtain ⟨a', vs', rfl, h1', h2'⟩ := hb.lst
      cases rx
      cases ry
      have l1 := dps_len h2
      have l2 := dps_len h2'
      obtain ⟨z, its, n, r, hl, e⟩ := Inv.rdl I h1
      obtain ⟨z2, its2, n2, r2, hl2, e2⟩ := Inv.rdl I h1'
      refine PySem.P.add_list e e2 ?_ (by rw [List.size_toArray, List.size_toArray]; omega)
      have ea : its.toArray ++ its2.toArray = (its ++ its2).toArray := by simp
      rw [ea]
      have g := Gw.new (o := .lst (vs ++ vs')) ex I.fresh
      exact ⟨.ref _, _, I.lnew (t' := s.toks) (r.append r2) (by rw [List.length_append]; omega), rfl, q _ _ _ g (.lst (.inl upd_same) (dps_ex g.ex (dps_app h2 h2')))⟩
    · cases e
  · cases e
theorem sub_ok : OpR X (binaryOp .Sub) (rD subD) := by
  intro pins s σ H x y v u Q I rx ry h
  obtain ⟨Hf, da, db, d, e, ex, ha, hb, q⟩ := h
  unfold subD at e
  split at e
  · cases e
    have := ha.int_; subst this
    have := hb.int_; subst this
    exact op_sub pins s σ H _ _ v u Q I rx ry ⟨_, _, rfl, rfl, q _ _ _ (Gw.refl ex) (.int _)⟩
  · cases e
theorem mul_ok : OpR X (binaryOp .Mult) (rD mulD) := by
  intro pins s σ H x y v u Q I rx ry h
  obtain ⟨Hf, da, db, d, e, ex, ha, hb, q⟩ := h
  unfold mulD at e
  split at e
  · split at e
    · cases e
      have := ha.int_; subst this
      have := hb.int_; subst this
      exact op_mulW pins s σ H _ _ v u Q I rx ry ⟨_, _, rfl, rfl, by assumption, q _ _ _ (Gw.refl ex) (.int _)⟩
    · cases e
  · cases e
theorem fdiv_ok : OpR X (binaryOp .FloorDiv) (rD fdivD) := by
  intro pins s σ H x y v u Q I rx ry h
  obtain ⟨Hf, da, db, d, e, ex, ha, hb, q⟩ := h
  unfold fdivD at e
  split at e
  · split at e
    · cases e
      have := ha.int_; subst this
      have := hb.int_; subst this
      exact op_fdivW pins s σ H _ _ v u Q I rx ry ⟨_, _, rfl, rfl, by assumption, q _ _ _ (Gw.refl ex) (.int _)⟩
    · cases e
  · cases e
theorem mod_ok : OpR X (binaryOp .Mod) (rD modD) := by
  intro pins s σ H x y v u Q I rx ry h
  obtain ⟨Hf, da, db, d, e, ex, ha, hb, q⟩ := h
  unfold modD at e
  split at e
  · split at e
    · cases e
      have := ha.int_; subst this
      have := hb.int_; subst this
      exact op_mod pins s σ H _ _ v u Q I rx ry ⟨_, _, rfl, rfl, by assumption, q _ _ _ (Gw.refl ex) (.int _)⟩
    · cases e
  · cases e
theorem pow_ok : OpR X (binaryOp .Pow) (rD powD) := by
  intro pins s σ H x y v u Q I rx ry h
  obtain ⟨Hf, da, db, d, e, ex, ha, hb, q⟩ := h
  unfold powD at e
  split at e
  · split at e
    · cases e
      have := ha.int_; subst this
      have := hb.int_; subst this
      exact op_pow pins s σ H _ _ v u Q I rx ry ⟨_, _, rfl, rfl, by assumption, q _ _ _ (Gw.refl ex) (.int _)⟩
    · cases e
  · cases e

theorem scal_eq {x y : V} {da db : D} (h : scalD da db = true) (ha : Dd H x da) (hb : Dd H y db) : scal x y = true ∧ decide (x = y) = PyData.eqv da db := by
  cases ha <;> cases hb <;> first
    | (exact absurd (show false = true from h) Bool.false_ne_true)
    | (refine ⟨rfl, ?_⟩; rw [PyData.eqv]; first | exact dec_int | exact dec_bl | exact dec_str)
    | (refine ⟨rfl, ?_⟩; simp [PyData.eqv]; done)
theorem eq_ok (hu : X.A.units + 64 < cLine) : OpR X (compareOp .Eq) (rDb eqD) := by
  intro pins s σ H x y v u Q I rx ry h
  obtain ⟨Hf, da, db, d, e, ex, ha, hb, q⟩ := h
  unfold eqD at e
  split at e
  · rename_i hs
    cases e
    by_cases hc : scalD da db = true
    · obtain ⟨s1, s2⟩ := scal_eq hc ha.1 hb.1
      exact op_eq pins s σ H x y v u Q I rx ry ⟨s1, by rw [s2]; exact q⟩
    · rw [Bool.or_eq_true, Bool.and_eq_true] at hs
      rcases hs with z | ⟨z1, z2⟩
      · exact absurd z hc
      · exact op_eqD hu pins s σ H x y v u Q I rx ry ⟨da, db, dd_dp _ (nd_sh z1) ha.1, dd_dp _ (nd_sh z2) hb.1, z1, z2, q⟩
  · cases e
theorem ne_ok (hu : X.A.units + 64 < cLine) : OpR X (compareOp .NotEq) (rDb neD) := by
  intro pins s σ H x y v u Q I rx ry h
  obtain ⟨Hf, da, db, d, e, ex, ha, hb, q⟩ := h
  unfold neD eqD at e
  split at e
  · rename_i hs
    cases e
    by_cases hc : scalD da db = true
    · obtain ⟨s1, s2⟩ := scal_eq hc ha.1 hb.1
      exact op_ne pins s σ H x y v u Q I rx ry ⟨s1, by rw [s2]; exact q⟩
    · rw [Bool.or_eq_true, Bool.and_eq_true] at hs
      rcases hs with z | ⟨z1, z2⟩
      · exact absurd z hc
      · exact op_neD hu pins s σ H x y v u Q I rx ry ⟨da, db, dd_dp _ (nd_sh z1) ha.1, dd_dp _ (nd_sh z2) hb.1, z1, z2, q⟩
  · cases e
theorem lt_ok : OpR X (compareOp .Lt) (rDb ltD) := by
  intro pins s σ H x y v u Q I rx ry h
  obtain ⟨Hf, da, db, d, e, ex, ha, hb, q⟩ := h
  unfold ltD at e
  split at e
  · cases e
    have := ha.int_; subst this
    have := hb.int_; subst this
    exact op_lt pins s σ H _ _ v u Q I rx ry ⟨_, _, rfl, rfl, q⟩
  · cases e
    have := ha.str_; subst this
    have := hb.str_; subst this
    exact op_lt_str pins s σ H _ _ v u Q I rx ry ⟨_, _, rfl, rfl, q⟩
  · cases e
theorem le_ok : OpR X (compareOp .LtE) (rDb leD) := by
  intro pins s σ H x y v u Q I rx ry h
  obtain ⟨Hf, da, db, d, e, ex, ha, hb, q⟩ := h
  unfold leD at e
  split at e
  · cases e
    have := ha.int_; subst this
    have := hb.int_; subst this
    exact op_le pins s σ H _ _ v u Q I rx ry ⟨_, _, rfl, rfl, q⟩
  · cases e
theorem gt_ok : OpR X (compareOp .Gt) (rDb gtD) := by
  intro pins s σ H x y v u Q I rx ry h
  obtain ⟨Hf, da, db, d, e, ex, ha, hb, q⟩ := h
  unfold gtD at e
  split at e
  · cases e
    have := ha.int_; subst this
    have := hb.int_; subst this
    exact op_gt pins s σ H _ _ v u Q I rx ry ⟨_, _, rfl, rfl, q⟩
  · cases e
theorem ge_ok : OpR X (compareOp .GtE) (rDb geD) := by
  intro pins s σ H x y v u Q I rx ry h
  obtain ⟨Hf, da, db, d, e, ex, ha, hb, q⟩ := h
  unfold geD at e
  split at e
  · cases e
    have := ha.int_; subst this
    have := hb.int_; subst this
    exact op_ge pins s σ H _ _ v u Q I rx ry ⟨_, _, rfl, rfl, q⟩
  · cases e
theorem flat_V (f : flatD d = true) (h : Dd H v d) : flatV v = true := by
  cases h <;> first | rfl | (exact absurd (show false = true from f) Bool.false_ne_true)
theorem eqV_eqv {x y : V} {da db : D} (fa : flatD da = true) (fb : flatD db = true) (ha : Dd H x da) (hb : Dd H y db) : eqV x y = PyData.eqv da db := by
  cases ha <;> cases hb <;> first
    | (exact absurd (show false = true from fa) Bool.false_ne_true)
    | (exact absurd (show false = true from fb) Bool.false_ne_true)
    | rfl
    | (unfold eqV; simp [PyData.eqv])
theorem flat_all : ∀ {xs : List V} {ds : List D}, ds.all flatD = true → Dds H xs ds → xs.all flatV = true
  | _, _, _, .nil => rfl
  | _, _, f, .cons h t => by
    rw [List.all_cons, Bool.and_eq_true] at f
    rw [List.all_cons, Bool.and_eq_true]
    exact ⟨flat_V f.1 h, flat_all f.2 t⟩
theorem inV_any {x : V} (fx : flatD d = true) (hx : Dd H x d) : ∀ {xs : List V} {ds : List D}, ds.all flatD = true → Dds H xs ds → inV x xs = ds.any fun y => PyData.eqv y d
  | _, _, _, .nil => rfl
  | _, _, f, .cons h t => by
    rw [List.all_cons, Bool.and_eq_true] at f
    have ih := inV_any fx hx f.2 t
    unfold inV at ih ⊢
    rw [List.any_cons, List.any_cons, ih, eqV_eqv f.1 fx h hx]
end
end Dn

set_option Elab.async false
set_option linter.all false
set_option maxRecDepth 100000
set_option maxHeartbeats 1000000
namespace Dn
open PySem L2
section
variable {X : Cx} {pins : List (Addr × Obj)} {σ : L2.St} {H Hf Hf' : Hp} {s : Shared} {v : V} {d : D}
theorem sign_of {c : Str} (h : c.length = 1) : c = ⟨#[c.cps.getD 0 0]⟩ := by
  obtain ⟨⟨l⟩⟩ := c
  match l, h with
  | [a], _ => rfl
  | [], h => exact absurd h (by decide)
  | a :: b :: r, h => exact absurd (show (a :: b :: r).length = 1 from h) (by simp)
theorem in_ok (hu : X.A.units + 65 < cLine) : OpR X (compareOp .In) (rDb inD) := by
  intro pins s σ H x y v u Q I rx ry h
  obtain ⟨Hf, da, db, d, e, ex, ha, hb, q⟩ := h
  unfold inD at e
  split at e
  · rename_i ys
    split at e
    · rename_i hs
      cases e
      obtain ⟨a, vs, rfl, h1, h2⟩ := hb.lst
      by_cases hf : (flatD da && ys.all flatD) = true
      · rw [Bool.and_eq_true] at hf
        have h2' := dps_ex ex h2
        refine op_in_seq pins s σ H _ _ v u Q I rx ry ⟨a, vs, rfl, .inl (.inl h1), flat_V hf.1 ha.1, flat_all hf.2 h2', ?_⟩
        show Q (.bl (inV x vs)) H
        rw [inV_any hf.1 ha.1 hf.2 h2']
        exact q
      · rw [Bool.or_eq_true] at hs
        rcases hs with z | z
        · exact absurd z hf
        · rw [Bool.and_eq_true] at z
          exact op_inD hu pins s σ H _ _ v u Q I rx ry ⟨da, ys, dd_dp _ (nd_sh z.1) ha.1, dd_dp _ (nd_sh z.2) hb.1, z.1, z.2, q⟩
    · cases e
  · rename_i ys
    split at e
    · rename_i hf
      cases e
      rw [Bool.and_eq_true] at hf
      obtain ⟨a, vs, rfl, h1, h2⟩ := hb.tup
      have h2' := dps_ex ex h2
      refine op_in_seq pins s σ H _ _ v u Q I rx ry ⟨a, vs, rfl, .inr (.inl h1), flat_V hf.1 ha.1, flat_all hf.2 h2', ?_⟩
      show Q (.bl (inV x vs)) H
      rw [inV_any hf.1 ha.1 hf.2 h2']
      exact q
    · cases e
  · split at e
    · rename_i c
      split at e
      · rename_i hc
        cases e
        have := ha.str_; subst this
        have := hb.str_; subst this
        exact op_in_sign pins s σ H _ _ v u Q I rx ry ⟨_, _, by rw [← sign_of hc], rfl, q⟩
      · cases e
    · cases e
  · cases e
theorem ix_ok : IxR X (rD ixD) := by
  intro value slice pins s σ H x y v u Q I rx ry h hs
  obtain ⟨Hf, da, db, d, e, ex, ha, hb, q⟩ := h
  unfold ixD at e
  split at e
  · obtain ⟨a, vs, rfl, h1, h2⟩ := ha.lst
    have := hb.int_; subst this
    obtain ⟨j, g1, g2, g3, g4, g5⟩ := atI_get e
    obtain ⟨w, k1, k2⟩ := dps_get h2 g2
    refine ix_list value slice pins s σ H _ _ v u Q I rx ry ⟨a, vs, _, w, rfl, rfl, .inl h1, ?_, q _ _ _ (Gw.refl ex) k2⟩ hs
    unfold atI at e ⊢
    rw [dps_len h2]
    cases z : ixN _ _ with
    | none => rw [z] at e; cases e
    | some j' =>
      rw [z] at e
      have e' : _ = some d := e
      obtain ⟨hs', _⟩ := ixN_seq z
      rw [g1] at hs'; cases hs'
      exact k1
  · obtain ⟨a, vs, rfl, h1, h2⟩ := ha.tup
    have := hb.int_; subst this
    obtain ⟨j, g1, g2, g3, g4, g5⟩ := atI_get e
    obtain ⟨w, k1, k2⟩ := dps_get h2 g2
    refine ix_tup value slice pins s σ H _ _ v u Q I rx ry ⟨a, vs, _, w, rfl, rfl, .inl h1, ?_, q _ _ _ (Gw.refl ex) k2⟩ hs
    unfold atI at e ⊢
    rw [dps_len h2]
    cases z : ixN _ _ with
    | none => rw [z] at e; cases e
    | some j' =>
      rw [z] at e
      have e' : _ = some d := e
      obtain ⟨hs', _⟩ := ixN_seq z
      rw [g1] at hs'; cases hs'
      exact k1
  · split at e
    · rename_i hz
      have := ha.str_; subst this
      have := hb.int_; subst this
      cases z : atI _ _ with
      | none => rw [z] at e; cases e
      | some c =>
        rw [z] at e
        cases e
        exact ix_str value slice pins s σ H _ _ v u Q I rx ry ⟨_, _, c, rfl, rfl, hz, z, q _ _ _ (Gw.refl ex) (.str _)⟩ hs
    · cases e
  · cases e
/-- xs[lo:hi] -/
def slD (d : D) (lo hi : Option Int) : Option D := match d with
  | .list xs => some (.list (cutD xs lo hi))
  | .tuple xs => some (.tuple (cutD xs lo hi))
  | _ => none
theorem cut_dds {xs : List D} {vs : List V} (h : Dds Hf vs xs) (lo hi : Option Int) : Dds Hf (cutV vs lo hi) (cutD xs lo hi) := by
  unfold cutV cutD
  rw [dps_len h]
  exact dps_take _ (dps_drop _ h)
def rSl (x : V) (lo hi : Option Int) (H : Hp) (Q : VK) : Prop := ∃ Hf d e, slD d lo hi = some e ∧ Ex Hf H ∧ Lv Hf H x d ∧ ∀ v Hf' H', Gw Hf H Hf' H' → Dd Hf' v e → Q v H'
theorem sl_ok : SlR X rSl := by
  intro pins s σ H x v vl vu lo hi sl Q I rx hs pl pu h
  obtain ⟨Hf, d, e, he, ex, hx, q⟩ := h
  unfold slD at he
  split at he
  · rename_i xs
    cases he
    obtain ⟨a, vs, rfl, h1, h2⟩ := hx.lst
    refine sl_list pins s σ H _ v vl vu lo hi sl Q I rx hs pl pu ⟨a, vs, rfl, .inl h1, fun p hp => ?_⟩
    have g := Gw.new (o := .lst (cutV vs lo hi)) ex hp
    exact q _ _ _ g (.lst (.inl upd_same) (dps_ex g.ex (cut_dds h2 lo hi)))
  · rename_i xs
    cases he
    obtain ⟨a, vs, rfl, h1, h2⟩ := hx.tup
    refine sl_tupF pins s σ H _ v vl vu lo hi sl Q I rx hs pl pu ⟨a, vs, rfl, .inl h1, fun z => ?_, fun z p o hp ho => ?_⟩
    · rw [dps_len h2] at z
      have : cutD xs lo hi = xs := by
        unfold cutD
        rw [z.1, z.2, List.drop_zero, Nat.sub_zero, List.take_length]
      rw [this] at q
      exact q _ _ _ (Gw.refl ex) (hx.flat fun _ z => nomatch z)
    · have g := Gw.new (o := .frz o (.tup (cutV vs lo hi))) ex hp
      exact q _ _ _ g (.tup ⟨o, upd_same, ho⟩ (dps_ex g.ex (cut_dds h2 lo hi)))
  · cases he
theorem tru_dd {K : PySem.W.Frag} {b : Bool} (h : Dd H v d) (e : truD d = some b) : TruV K v H b := by
  cases h with
  | non => cases e; rfl
  | bl x => cases e; rfl
  | int i => cases e; rfl
  | str x =>
    have e' : (if x.length ≤ sizeLine then some (x.length != 0) else none) = some b := e
    split at e'
    · rename_i hz
      cases e'
      refine ⟨hz, ?_⟩
      rw [Bool.eq_iff_iff]
      simp
    · cases e'
  | lst h a =>
    cases e
    refine .inl ⟨_, .inl h, ?_⟩
    cases a <;> rfl
  | tup h a =>
    cases e
    refine .inr (.inl ⟨_, .inl h.rd, ?_⟩)
    cases a <;> rfl
  | dic h => cases e
theorem ty_dd {K : PySem.W.Frag} (h : Dd H v d) : TyX K H v (.type (tyD d)) := by
  cases h with
  | non => exact .base .non
  | bl x => exact .base (.bl x)
  | int i => exact .base (.int i)
  | str x => exact .base (.str x)
  | lst h a =>
    rcases h with h | ⟨o, h⟩
    · exact .base (.lst h)
    · exact .base (.frz h)
  | tup h a =>
    obtain ⟨o, e, _⟩ := h
    exact .fTuple e
  | dic h => exact .base (.dK h)
end

def eV (i : Nat) (ρ : List S) : M S := match ρ[i]? with
  | some (.d x) => ret (.d x)
  | some (.cel j) => ret (.cel j)
  | some (.fn a) => ret (.fn a)
  | _ => stuck
def eFn (a : Addr) (_ : List S) : M S := ret (.fn a)
def eC (d : D) (_ : List S) : M S := ret (.d d)
def op2 {β : Type} (g : D → D → Option β) (fa fb : List S → M S) (ρ : List S) : M β := bnd (fa ρ) fun a => bnd (fb ρ) fun b => bnd (vwM a) fun x => bnd (vwM b) fun y => ofO (g x y)
def op1 {β : Type} (g : D → Option β) (fa : List S → M S) (ρ : List S) : M β := bnd (fa ρ) fun a => bnd (vwM a) fun x => ofO (g x)
def eBin (g : D → D → Option D) (fa fb : List S → M S) (ρ : List S) : M S := bnd (op2 g fa fb ρ) fun d => ret (.d d)
def eCmp (g : D → D → Option Bool) (fa fb : List S → M S) (ρ : List S) : M S := bnd (op2 g fa fb ρ) fun b => ret (.d (.bool b))
def eIsN (fa : List S → M S) (ρ : List S) : M S := bnd (op1 isnD fa ρ) fun b => ret (.d (.bool b))
def eIsNN (fa : List S → M S) (ρ : List S) : M S := bnd (op1 isnD fa ρ) fun b => ret (.d (.bool (!b)))
def tT (fa : List S → M S) (ρ : List S) : M Bool := op1 truD fa ρ
def tNotM (f : List S → M Bool) (ρ : List S) : M Bool := bnd (f ρ) fun b => ret (!b)
def tAndM (f g : List S → M Bool) (ρ : List S) : M Bool := bnd (f ρ) fun b => if b = true then g ρ else ret false
def tOrM (f g : List S → M Bool) (ρ : List S) : M Bool := bnd (f ρ) fun b => if b = true then ret true else g ρ
def eAndM (f g : List S → M S) (ρ : List S) : M S := bnd (f ρ) fun a => bnd (vwM a) fun x => bnd (ofO (truD x)) fun b => if b = true then g ρ else ret a
def eOrM (f g : List S → M S) (ρ : List S) : M S := bnd (f ρ) fun a => bnd (vwM a) fun x => bnd (ofO (truD x)) fun b => if b = true then ret a else g ρ
def eNotM (f : List S → M S) (ρ : List S) : M S := bnd (op1 truD f ρ) fun b => ret (.d (.bool (!b)))
def eIf (t : List S → M Bool) (f g : List S → M S) (ρ : List S) : M S := bnd (t ρ) fun b => if b = true then f ρ else g ρ
def tChn (g g' : D → D → Option Bool) (fa fb fc : List S → M S) (ρ : List S) : M Bool := bnd (fa ρ) fun a => bnd (fb ρ) fun b => bnd (vwM a) fun x => bnd (vwM b) fun y => bnd (ofO (g x y)) fun k => if k = true then bnd (fc ρ) fun c => bnd (vwM b) fun y' => bnd (vwM c) fun z => ofO (g' y' z) else ret false
def eChn (g g' : D → D → Option Bool) (fa fb fc : List S → M S) (ρ : List S) : M S := bnd (tChn g g' fa fb fc ρ) fun b => ret (.d (.bool b))
def aNil (_ : List S) : M (List S) := ret []
def aCons (f : List S → M S) (g : List S → M (List S)) (ρ : List S) : M (List S) := bnd (f ρ) fun a => bnd (g ρ) fun as => ret (a :: as)
def asD : List S → Option (List D)
  | [] => some []
  | .d x :: r => (asD r).map (x :: ·)
  | _ :: _ => none
def eTup (g : List S → M (List S)) (ρ : List S) : M S := bnd (g ρ) fun as => bnd (ofO (asD as)) fun xs => if xs.length ≤ sizeLine then ret (.d (.tuple xs)) else stuck
def eLst (g : List S → M (List S)) (ρ : List S) : M Rv := bnd (g ρ) fun as => bnd (ofO (asD as)) fun xs => if xs.length ≤ sizeLine then ret (.own (.lst xs)) else stuck
def frz : Rv → M S
  | .d x => ret (.d x)
  | .own (.lst xs) => ret (.d (.list xs))
  | .cel j => ret (.cel j)
  | _ => stuck
def eFrz (f : List S → M Rv) (ρ : List S) : M S := bnd (f ρ) frz
def sRv : S → M Rv
  | .d x => ret (.d x)
  | .cel j => ret (.cel j)
  | _ => stuck
def eRv (f : List S → M S) (ρ : List S) : M Rv := bnd (f ρ) sRv
def oNone (_ : List S) : M (Option Int) := ret none
def oSome (f : List S → M S) (ρ : List S) : M (Option Int) := bnd (f ρ) fun a => match a with
  | .d (.int i) => ret (some i)
  | _ => stuck
def eSl (f : List S → M S) (l h : List S → M (Option Int)) (ρ : List S) : M S := bnd (f ρ) fun a => bnd (l ρ) fun lo => bnd (h ρ) fun hi => bnd (vwM a) fun x => bnd (ofO (slD x lo hi)) fun d => ret (.d d)

section
variable {X : Cx} {W : WX} {B : Hp} {ca : List Addr} {Hf H : Hp} {ρ : List S} {σ : L2.St} {cs : Store} {α β : Type} {P : List Addr → Hp → Hp → Store → β → Prop}
theorem vwM_ {a : S} {k : D → M β} (r : Rel B ca ρ cs Hf σ H) (h : Gs X W B ca Hf ρ σ (bnd (vwM a) k cs) P) : ∃ d, vw a cs = some d ∧ Gs X W B ca Hf ρ σ (k d cs) P := by
  unfold bnd vwM at h
  cases e : vw a cs with
  | none => rw [e] at h; exact h.elim
  | some d => rw [e] at h; exact ⟨d, rfl, h⟩
theorem ofOb_ {o : Option α} {k : α → M β} (h : Gs X W B ca Hf ρ σ (bnd (ofO o) k cs) P) : ∃ d, o = some d ∧ Gs X W B ca Hf ρ σ (k d cs) P := by
  cases o with
  | none => exact h.elim
  | some d => exact ⟨d, rfl, h⟩
abbrev KE (X : Cx) (W : WX) (t : TE) (f : List S → M S) : Prop := ∀ (B : Hp) (ca : List Addr) (ρ : List S) (cs : Store) (Hf : Hp) (σ : L2.St) (H : Hp) (Q : VK), Rel B ca ρ cs Hf σ H →
  Gs X W B ca Hf ρ σ (f ρ cs) (fun ca' Hf' H' _ s => ∀ v, SvOk ca' Hf' s v → Q v H') → t σ H Q
theorem op2_run {γ : Type} {g : D → D → Option γ} {fa fb : List S → M S} {ta tb : TE} {P : List Addr → Hp → Hp → Store → β → Prop} {k : γ → M β} (ka : KE X W ta fa) (kb : KE X W tb fb) (r : Rel B ca ρ cs Hf σ H)
    (h : Gs X W B ca Hf ρ σ (bnd (op2 g fa fb ρ) k cs) P) {R : V → V → Hp → Prop}
    (hR : ∀ ca2 Hf2 H2 cs2 x y da db z, Nx ca Hf ca2 Hf2 → Rel B ca2 ρ cs2 Hf2 σ H2 → Lv Hf2 H2 x da → Lv Hf2 H2 y db → g da db = some z → Gs X W B ca2 Hf2 ρ σ (k z cs2) P → R x y H2) :
    ta σ H fun x H1 => tb σ H1 fun y H2 => R x y H2 := by
  have h' : Gs X W B ca Hf ρ σ (bnd (fa ρ) (fun a => bnd (fb ρ) fun b => bnd (vwM a) fun x => bnd (vwM b) fun y => bnd (ofO (g x y)) k) cs) P := by
    have e : bnd (op2 g fa fb ρ) k cs = bnd (fa ρ) (fun a => bnd (fb ρ) fun b => bnd (vwM a) fun x => bnd (vwM b) fun y => bnd (ofO (g x y)) k) cs := by
      unfold op2 bnd
      cases fa ρ cs with
      | ok a c1 =>
        dsimp only
        cases fb ρ c1 with
        | ok b c2 =>
          dsimp only
          cases vwM a c2 with
          | ok x c3 =>
            dsimp only
            cases vwM b c3 with
            | ok y c4 => rfl
            | er _ _ => rfl
            | no => rfl
          | er _ _ => rfl
          | no => rfl
        | er _ _ => rfl
        | no => rfl
      | er _ _ => rfl
      | no => rfl
    rw [← e]; exact h
  refine ka B ca ρ cs Hf σ H _ r (h'.bind.mono fun ca1 Hf1 H1 cs1 a n1 r1 h1 x hx => ?_)
  refine kb B ca1 ρ cs1 Hf1 σ H1 _ r1 (h1.bind.mono fun ca2 Hf2 H2 cs2 b n2 r2 h2 y hy => ?_)
  obtain ⟨da, e1, h3⟩ := vwM_ r2 h2
  obtain ⟨db, e2, h4⟩ := vwM_ r2 h3
  obtain ⟨z, e3, h5⟩ := ofOb_ h4
  exact hR ca2 Hf2 H2 cs2 x y da db z (n1.trans n2) r2 (vw_ok r2 (hx.nx n2) e1) (vw_ok r2 hy e2) e3 h5
theorem op1_run {γ : Type} {g : D → Option γ} {fa : List S → M S} {ta : TE} {k : γ → M β} (ka : KE X W ta fa) (r : Rel B ca ρ cs Hf σ H)
    (h : Gs X W B ca Hf ρ σ (bnd (op1 g fa ρ) k cs) P) {R : V → Hp → Prop}
    (hR : ∀ ca2 Hf2 H2 cs2 x da z, Nx ca Hf ca2 Hf2 → Rel B ca2 ρ cs2 Hf2 σ H2 → Lv Hf2 H2 x da → g da = some z → Gs X W B ca2 Hf2 ρ σ (k z cs2) P → R x H2) :
    ta σ H fun x H1 => R x H1 := by
  have h' : Gs X W B ca Hf ρ σ (bnd (fa ρ) (fun a => bnd (vwM a) fun x => bnd (ofO (g x)) k) cs) P := by
    have e : bnd (op1 g fa ρ) k cs = bnd (fa ρ) (fun a => bnd (vwM a) fun x => bnd (ofO (g x)) k) cs := by
      unfold op1 bnd
      cases fa ρ cs with
      | ok a c1 =>
        dsimp only
        cases vwM a c1 with
        | ok x c3 => rfl
        | er _ _ => rfl
        | no => rfl
      | er _ _ => rfl
      | no => rfl
    rw [← e]; exact h
  refine ka B ca ρ cs Hf σ H _ r (h'.bind.mono fun ca1 Hf1 H1 cs1 a n1 r1 h1 x hx => ?_)
  obtain ⟨da, e1, h3⟩ := vwM_ r1 h1
  obtain ⟨z, e3, h5⟩ := ofOb_ h3
  exact hR ca1 Hf1 H1 cs1 x da z n1 r1 (vw_ok r1 hx e1) e3 h5
/-- a Gs without a rest -/
theorem Gs.rest {res : M β} (h : Gs X W B ca Hf ρ σ (res cs) P) : Gs X W B ca Hf ρ σ (bnd res ret cs) P := by
  have e : bnd res ret cs = res cs := by
    unfold bnd
    cases res cs <;> rfl
  rw [e]; exact h
end

section
variable {X : Cx} {W : WX} {a b c : Expr} {fa fb fc : List S → M S} {pos : Pos}
theorem de_name (i : Nat) {x : Str} (hN : X.N[i]? = some x := by rfl) (hv : Vis X.env.scope x := by first | exact Or.inl rfl | exact Or.inr (Or.inl rfl) | exact Or.inr (Or.inr rfl)) (hd : (x == ("__debug__" : Str)) = false := by decide)
    (hcd : (x == ("__classdict__" : Str)) = false := by decide) : DE X W (.Name x pos) (eV i) := by
  refine ⟨_, pe_var hN hv hd hcd, fun B ca ρ cs Hf σ H Q r h => ?_⟩
  unfold eV at h
  cases e : ρ[i]? with
  | none => rw [e] at h; exact h.elim
  | some s =>
    rw [e] at h
    cases s with
    | no => exact h.elim
    | d x =>
      obtain ⟨v, h1, h2⟩ := r.get e (fun z => nomatch z)
      exact ⟨v, h1, h.ret_ r v h2⟩
    | cel j =>
      obtain ⟨v, h1, h2⟩ := r.get e (fun z => nomatch z)
      exact ⟨v, h1, h.ret_ r v h2⟩
    | fn a =>
      obtain ⟨v, h1, h2⟩ := r.get e (fun z => nomatch z)
      exact ⟨v, h1, h.ret_ r v h2⟩
theorem de_int {i j} : DE X W (.Constant (.int i) j pos) (eC (.int i)) := ⟨_, pe_int, fun B ca ρ cs Hf σ H Q r h => h.ret_ r _ (.int i)⟩
theorem de_bl {i j} : DE X W (.Constant (.bool i) j pos) (eC (.bool i)) := ⟨_, pe_bl, fun B ca ρ cs Hf σ H Q r h => h.ret_ r _ (.bl i)⟩
theorem de_str {i j} : DE X W (.Constant (.str i) j pos) (eC (.str i)) := ⟨_, pe_str, fun B ca ρ cs Hf σ H Q r h => h.ret_ r _ (.str i)⟩
theorem de_non {j} : DE X W (.Constant .none j pos) (eC .none) := ⟨_, pe_non, fun B ca ρ cs Hf σ H Q r h => h.ret_ r _ .non⟩
theorem de_globI {x : Str} {i : Int} {t : Tok} (hm : X.mg x = some (.int i t)) (hg : Gl X x := by rfl) (hd : (x == ("__debug__" : Str)) = false := by decide) : DE X W (.Name x pos) (eC (.int i)) :=
  ⟨_, pe_glob (v := .int i) hg hm ⟨t, rfl⟩ hd, fun B ca ρ cs Hf σ H Q r h => h.ret_ r _ (.int i)⟩
theorem DO.frz {f : List S → M Rv} (h : DO X W a f) : DE X W a (eFrz f) := by
  obtain ⟨t, p, k⟩ := h
  refine ⟨t, p, fun B ca ρ cs Hf σ H Q r h => ?_⟩
  refine k B ca ρ cs Hf σ H Q r (h.bind.mono fun ca1 Hf1 H1 cs1 rv n1 r1 h1 v hv => ?_)
  cases rv with
  | d x => exact h1.ret_ r1 v hv
  | cel j => exact h1.ret_ r1 v hv
  | own o =>
    cases o with
    | lst xs =>
      obtain ⟨Hf2, r2, n2, dp⟩ := r1.own hv
      exact h1 ca1 Hf2 H1 n2 r2 v dp
    | _ => exact h1.elim
  | pr x xs => exact h1.elim
  | cp j x => exact h1.elim
theorem DE.rv (h : DE X W a fa) : DO X W a (eRv fa) := by
  obtain ⟨t, p, k⟩ := h
  refine ⟨t, p, fun B ca ρ cs Hf σ H Q r h => ?_⟩
  refine k B ca ρ cs Hf σ H Q r (h.bind.mono fun ca1 Hf1 H1 cs1 s n1 r1 h1 v hv => ?_)
  cases s with
  | d x => exact h1.ret_ r1 v hv
  | cel j => exact h1.ret_ r1 v hv
  | fn a => exact h1.elim
  | no => exact h1.elim
theorem de_op {op : Operator} {g : D → D → Option D} (ho : OpR X (binaryOp op) (rD g)) (ha : DE X W a fa) (hb : DE X W b fb) : DE X W (.BinOp a op b pos) (eBin g fa fb) := by
  obtain ⟨ta, pa, ka⟩ := ha
  obtain ⟨tb, pb, kb⟩ := hb
  refine ⟨_, pe_op ho pa pb, fun B ca ρ cs Hf σ H Q r h => ?_⟩
  refine op2_run ka kb r h fun ca2 Hf2 H2 cs2 x y da db z n2 r2 hx hy hz h2 => ?_
  refine ⟨Hf2, da, db, z, hz, r2.ext, hx, hy, fun v Hf3 H3 g3 dv => ?_⟩
  obtain ⟨r3, n3⟩ := r2.gw g3
  exact h2 ca2 Hf3 H3 n3 r3 v dv
theorem de_cmp {op : CmpOp} {g : D → D → Option Bool} (ho : OpR X (compareOp op) (rDb g)) (ha : DE X W a fa) (hb : DE X W b fb) (hm : behindInMarks op b = false := by rfl) : DE X W (.Compare a [op] [b] pos) (eCmp g fa fb) := by
  obtain ⟨ta, pa, ka⟩ := ha
  obtain ⟨tb, pb, kb⟩ := hb
  refine ⟨_, pe_cmpR ho pa pb hm, fun B ca ρ cs Hf σ H Q r h => ?_⟩
  refine op2_run ka kb r h fun ca2 Hf2 H2 cs2 x y da db z n2 r2 hx hy hz h2 => ?_
  exact ⟨Hf2, da, db, z, hz, r2.ext, hx, hy, h2.ret_ r2 _ (.bl z)⟩
theorem dt_cmp {op : CmpOp} {g : D → D → Option Bool} (ho : OpR X (compareOp op) (rDb g)) (ha : DE X W a fa) (hb : DE X W b fb) (hm : behindInMarks op b = false := by rfl) : DT X W (.Compare a [op] [b] pos) (op2 g fa fb) := by
  obtain ⟨ta, pa, ka⟩ := ha
  obtain ⟨tb, pb, kb⟩ := hb
  refine ⟨_, pt_cmpR ho pa pb hm, fun B ca ρ cs Hf σ H Q r h => ?_⟩
  refine op2_run ka kb r h.rest fun ca2 Hf2 H2 cs2 x y da db z n2 r2 hx hy hz h2 => ?_
  exact ⟨Hf2, da, db, z, hz, r2.ext, hx, hy, z, rfl, h2.ret_ r2⟩
theorem isn_dec {da : D} {x : V} {k : Bool} (hx : Dd H x da) (hz : isnD da = some k) : decide (x = V.non) = k := by
  cases hx <;> (unfold isnD at hz; cases hz; first | rfl | simp)
theorem de_isn {j p} (ha : DE X W a fa) : DE X W (.Compare a [.Is] [.Constant .none j p] pos) (eIsN fa) := by
  obtain ⟨ta, pa, ka⟩ := ha
  refine ⟨_, pe_cmpR op_isN pa pe_non rfl, fun B ca ρ cs Hf σ H Q r h => ?_⟩
  refine op1_run ka r h fun ca2 Hf2 H2 cs2 x da z n2 r2 hx hz h2 => ?_
  refine ⟨rfl, ?_⟩
  rw [isn_dec hx.1 hz]
  exact h2.ret_ r2 _ (.bl z)
theorem dt_isn {j p} (ha : DE X W a fa) : DT X W (.Compare a [.Is] [.Constant .none j p] pos) (op1 isnD fa) := by
  obtain ⟨ta, pa, ka⟩ := ha
  refine ⟨_, pt_cmpR op_isN pa pe_non rfl, fun B ca ρ cs Hf σ H Q r h => ?_⟩
  refine op1_run ka r h.rest fun ca2 Hf2 H2 cs2 x da z n2 r2 hx hz h2 => ?_
  refine ⟨rfl, z, by rw [isn_dec hx.1 hz], h2.ret_ r2⟩
/-- an expression's truth as a test -/
theorem dt_tru (ha : DE X W a fa) (he : ∀ whole, isTrue a X.env whole = (do let v ← whole; standAt a.pos; holding [v] (truthy v)) := by intro _; rfl) : DT X W a (tT fa) := by
  obtain ⟨ta, pa, ka⟩ := ha
  refine ⟨_, pt_truth pa he, fun B ca ρ cs Hf σ H Q r h => ?_⟩
  refine op1_run ka r h.rest fun ca2 Hf2 H2 cs2 x da z n2 r2 hx hz h2 => ?_
  exact ⟨z, tru_dd hx.1 hz, h2.ret_ r2⟩
theorem dt_not {f : List S → M Bool} (ha : DT X W a f) : DT X W (.UnaryOp .Not a pos) (tNotM f) := by
  obtain ⟨ta, pa, ka⟩ := ha
  refine ⟨_, pt_not pa, fun B ca ρ cs Hf σ H Q r h => ?_⟩
  exact ka B ca ρ cs Hf σ H _ r (h.bind.mono fun ca1 Hf1 H1 cs1 z n1 r1 h1 => h1.ret_ r1)
theorem DW.dt {f : List S → M Bool} (h : DW X W a f) : DT X W a f := let ⟨t, p, k⟩ := h; ⟨t, p.pt, k⟩
variable {f g : List S → M Bool} {rest : List Expr}
theorem dw_and1 (h : DT X W a f) : DW X W (.BoolOp .And [a] pos) f := let ⟨t, p, k⟩ := h; ⟨t, pw_and1 p, k⟩
theorem dw_or1 (h : DT X W a f) : DW X W (.BoolOp .Or [a] pos) f := let ⟨t, p, k⟩ := h; ⟨t, pw_or1 p, k⟩
theorem dw_and (ha : DT X W a f) (hb : DW X W (.BoolOp .And (b :: rest) pos) g) : DW X W (.BoolOp .And (a :: b :: rest) pos) (tAndM f g) := by
  obtain ⟨ta, pa, ka⟩ := ha
  obtain ⟨tb, pb, kb⟩ := hb
  refine ⟨_, pw_and pa pb, fun B ca ρ cs Hf σ H Q r h => ?_⟩
  refine ka B ca ρ cs Hf σ H _ r (h.bind.mono fun ca1 Hf1 H1 cs1 z n1 r1 h1 => ?_)
  cases z with
  | true => exact kb B ca1 ρ cs1 Hf1 σ H1 Q r1 h1
  | false => exact h1.ret_ r1
theorem dw_or (ha : DT X W a f) (hb : DW X W (.BoolOp .Or (b :: rest) pos) g) : DW X W (.BoolOp .Or (a :: b :: rest) pos) (tOrM f g) := by
  obtain ⟨ta, pa, ka⟩ := ha
  obtain ⟨tb, pb, kb⟩ := hb
  refine ⟨_, pw_or pa pb, fun B ca ρ cs Hf σ H Q r h => ?_⟩
  refine ka B ca ρ cs Hf σ H _ r (h.bind.mono fun ca1 Hf1 H1 cs1 z n1 r1 h1 => ?_)
  cases z with
  | true => exact h1.ret_ r1
  | false => exact kb B ca1 ρ cs1 Hf1 σ H1 Q r1 h1
theorem de_one {op} (h : DE X W a fa) : DE X W (.BoolOp op [a] pos) fa := let ⟨t, p, k⟩ := h; ⟨t, pe_one p, k⟩
theorem de_and (ha : DE X W a fa) (hb : DE X W (.BoolOp .And (b :: rest) pos) fb) : DE X W (.BoolOp .And (a :: b :: rest) pos) (eAndM fa fb) := by
  obtain ⟨ta, pa, ka⟩ := ha
  obtain ⟨tb, pb, kb⟩ := hb
  refine ⟨_, pe_andT pa pb, fun B ca ρ cs Hf σ H Q r h => ?_⟩
  refine ka B ca ρ cs Hf σ H _ r (h.bind.mono fun ca1 Hf1 H1 cs1 s n1 r1 h1 v hv => ?_)
  obtain ⟨d, e1, h2⟩ := vwM_ r1 h1
  obtain ⟨z, e2, h3⟩ := ofOb_ h2
  refine ⟨z, tru_dd (vw_ok r1 hv e1).1 e2, ?_⟩
  cases z with
  | true => exact kb B ca1 ρ cs1 Hf1 σ H1 Q r1 h3
  | false => exact h3.ret_ r1 v hv
theorem de_not (ha : DE X W a fa) : DE X W (.UnaryOp .Not a pos) (eNotM fa) := by
  obtain ⟨ta, pa, ka⟩ := ha
  refine ⟨_, pe_notT pa, fun B ca ρ cs Hf σ H Q r h => ?_⟩
  refine op1_run ka r h fun ca2 Hf2 H2 cs2 x da z n2 r2 hx hz h2 => ?_
  exact ⟨z, tru_dd hx.1 hz, h2.ret_ r2 _ (.bl (!z))⟩
theorem de_if (hc : DT X W c f) (ha : DE X W a fa) (hb : DE X W b fb) : DE X W (.IfExp c a b pos) (eIf f fa fb) := by
  obtain ⟨tc, pc, kc⟩ := hc
  obtain ⟨ta, pa, ka⟩ := ha
  obtain ⟨tb, pb, kb⟩ := hb
  refine ⟨_, pe_ifExp pc pa pb, fun B ca ρ cs Hf σ H Q r h => ?_⟩
  refine kc B ca ρ cs Hf σ H _ r (h.bind.mono fun ca1 Hf1 H1 cs1 z n1 r1 h1 => ?_)
  cases z with
  | true => exact ka B ca1 ρ cs1 Hf1 σ H1 Q r1 h1
  | false => exact kb B ca1 ρ cs1 Hf1 σ H1 Q r1 h1
theorem de_chn {op op' : CmpOp} {g g' : D → D → Option Bool} (ho : OpR X (compareOp op) (rDb g)) (ho' : OpR X (compareOp op') (rDb g')) (ha : DE X W a fa) (hb : DE X W b fb) (hc : DE X W c fc)
    (hm : lastMarks [op, op'] [b, c] = false := by with_unfolding_all rfl) : DE X W (.Compare a [op, op'] [b, c] pos) (eChn g g' fa fb fc) := by
  obtain ⟨ta, pa, ka⟩ := ha
  obtain ⟨tb, pb, kb⟩ := hb
  obtain ⟨tc, pc, kc⟩ := hc
  have mono : ∀ {σ : L2.St} {H : Hp} {Q Q' : VK}, tChain (rDb g) (rDb g') ta tb tc σ H Q → tChain (rDb g) (rDb g') ta tb tc σ H Q := fun h => h
  refine ⟨_, pe_chain ho ho' pa pb pc hm, fun B ca ρ cs Hf σ H Q r h => ?_⟩
  refine ka B ca ρ cs Hf σ H _ r ?_
  have h0 : Gs X W B ca Hf ρ σ (bnd (fa ρ) (fun s => bnd (fun cs => bnd (fb ρ) (fun b => bnd (vwM s) fun x => bnd (vwM b) fun y => bnd (ofO (g x y)) fun k => if k = true then bnd (fc ρ) fun c => bnd (vwM b) fun y' => bnd (vwM c) fun z => ofO (g' y' z) else ret false) cs) fun b => ret (.d (.bool b))) cs) (fun ca' Hf' H' _ s => ∀ v, SvOk ca' Hf' s v → Q v H') := by
    have e : ∀ (m : M S) (k : S → M Bool) (k2 : Bool → M S), bnd (bnd m k) k2 cs = bnd m (fun s => bnd (k s) k2) cs := fun m k k2 => by
      unfold bnd
      cases m cs <;> rfl
    have h' := h
    unfold eChn tChn at h'
    rw [e] at h'
    exact h'
  refine h0.bind.mono fun ca1 Hf1 H1 cs1 s n1 r1 h1 x hx => ?_
  have h1' := h1.bind
  refine kb B ca1 ρ cs1 Hf1 σ H1 _ r1 (h1'.bind.mono fun ca2 Hf2 H2 cs2 s2 n2 r2 h2 y hy => ?_)
  obtain ⟨da, e1, h3⟩ := vwM_ r2 h2
  obtain ⟨db, e2, h4⟩ := vwM_ r2 h3
  obtain ⟨z, e3, h5⟩ := ofOb_ h4
  refine ⟨Hf2, da, db, z, e3, r2.ext, vw_ok r2 (hx.nx n2) e1, vw_ok r2 hy e2, z, rfl, ?_⟩
  cases z with
  | false => exact iteF ((h5.ret_ r2).ret_ r2 _ (.bl false))
  | true =>
    refine iteT ?_
    have h5' : Gs X W B ca2 Hf2 ρ σ (bnd (fc ρ) (fun c => bnd (vwM s2) fun y' => bnd (vwM c) fun z => ofO (g' y' z)) cs2) _ := h5
    refine kc B ca2 ρ cs2 Hf2 σ H2 _ r2 (h5'.bind.mono fun ca3 Hf3 H3 cs3 s3 n3 r3 h6 w hw => ?_)
    obtain ⟨db', e4, h7⟩ := vwM_ r3 h6
    obtain ⟨dc, e5, h8⟩ := vwM_ r3 h7
    obtain ⟨k, e6, h9⟩ := h8.ofO_ r3
    exact ⟨Hf3, db', dc, k, e6, r3.ext, vw_ok r3 (hy.nx n3) e4, vw_ok r3 hw e5, h9.ret_ r3 _ (.bl k)⟩
end
end Dn

set_option Elab.async false
set_option linter.all false
set_option maxRecDepth 100000
set_option maxHeartbeats 1000000
namespace Dn
open PySem L2
abbrev KA (X : Cx) (W : WX) (t : TA) (f : List S → M (List S)) : Prop := ∀ (B : Hp) (ca : List Addr) (ρ : List S) (cs : Store) (Hf : Hp) (σ : L2.St) (H : Hp) (Q : List V → Hp → Prop), Rel B ca ρ cs Hf σ H →
  Gs X W B ca Hf ρ σ (f ρ cs) (fun ca' Hf' H' _ ss => ∀ vs, SvsOk ca' Hf' ss vs → Q vs H') → t σ H Q
section
variable {Hf H : Hp} {ca : List Addr}
theorem asD_dds : ∀ {ss : List S} {xs : List D} {vs : List V}, asD ss = some xs → SvsOk ca Hf ss vs → Dds Hf vs xs
  | [], xs, vs, e, h => by
    have : [] = xs := Option.some.inj e
    subst this
    cases h
    exact .nil
  | .d x :: r, xs, vs, e, h => by
    unfold asD at e
    cases q : asD r with
    | none => rw [q] at e; cases e
    | some ys =>
      rw [q] at e
      have : x :: ys = xs := Option.some.inj e
      subst this
      cases h with
      | cons h t => exact .cons h (asD_dds q t)
  | .cel j :: r, xs, vs, e, h => by cases e
  | .fn a :: r, xs, vs, e, h => by cases e
  | .no :: r, xs, vs, e, h => by cases e
end
section
variable {X : Cx} {W : WX} {a b e : Expr} {es : List Expr} {fa fb : List S → M S} {g : List S → M (List S)} {pos : Pos}
theorem da_nil : DA X W [] aNil := ⟨_, pa_nil, fun B ca ρ cs Hf σ H Q r h => h.ret_ r _ .nil⟩
theorem da_cons (ha : DE X W e fa) (hr : DA X W es g) (hs : starEach (e :: es) X.env = (false, eval e X.env) :: starEach es X.env := by rfl) : DA X W (e :: es) (aCons fa g) := by
  obtain ⟨ta, pa, ka⟩ := ha
  obtain ⟨tr, pr, kr⟩ := hr
  refine ⟨_, pa_cons pa pr hs, fun B ca ρ cs Hf σ H Q r h => ?_⟩
  refine ka B ca ρ cs Hf σ H _ r (h.bind.mono fun ca1 Hf1 H1 cs1 s n1 r1 h1 v hv => ?_)
  refine kr B ca1 ρ cs1 Hf1 σ H1 _ r1 (h1.bind.mono fun ca2 Hf2 H2 cs2 ss n2 r2 h2 vs hvs => ?_)
  exact h2.ret_ r2 _ (.cons (hv.nx n2) hvs)
theorem de_tup {k} (hr : DA X W es g) : DE X W (.Tuple es k pos) (eTup g) := by
  obtain ⟨tr, pr, kr⟩ := hr
  refine ⟨_, pe_tupF pr, fun B ca ρ cs Hf σ H Q r h => ?_⟩
  refine kr B ca ρ cs Hf σ H _ r (h.bind.mono fun ca1 Hf1 H1 cs1 ss n1 r1 h1 vs hvs => ?_)
  obtain ⟨xs, e1, h2⟩ := ofOb_ h1
  have dd := asD_dds e1 hvs
  split at h2
  · rename_i hz
    refine ⟨by rw [dps_len dd]; exact hz, fun p o hp ho => ?_⟩
    obtain ⟨r2, n2⟩ := r1.news (o := .frz o (.tup vs)) hp
    exact h2 ca1 _ _ n2 r2 _ (.tup ⟨o, upd_same, ho⟩ (dps_ex n2.ex dd))
  · exact h2.elim
theorem do_lst (hr : DA X W es g) : DO X W (.List es pos) (eLst g) := by
  obtain ⟨tr, pr, kr⟩ := hr
  refine ⟨_, pe_lst pr, fun B ca ρ cs Hf σ H Q r h => ?_⟩
  refine kr B ca ρ cs Hf σ H _ r (h.bind.mono fun ca1 Hf1 H1 cs1 ss n1 r1 h1 vs hvs => ?_)
  obtain ⟨xs, e1, h2⟩ := ofOb_ h1
  have dd := asD_dds e1 hvs
  split at h2
  · rename_i hz
    refine ⟨by rw [dps_len dd]; exact hz, fun p hp => ?_⟩
    obtain ⟨m1, m2, m3⟩ := r1.newIn hp
    exact h2 ca1 Hf1 _ Nx.refl (r1.grow (ex_new hp)) _ ⟨p, rfl, ⟨vs, upd_same, dd⟩, m1, m2, m3⟩
  · exact h2.elim
theorem de_ix (ha : DE X W a fa) (hb : DE X W b fb) (hs : PlainIx b := by exact fun _ _ => rfl) : DE X W (.Subscript a b pos) (eBin ixD fa fb) := by
  obtain ⟨ta, pa, ka⟩ := ha
  obtain ⟨tb, pb, kb⟩ := hb
  refine ⟨_, pe_ix ix_ok pa pb hs, fun B ca ρ cs Hf σ H Q r h => ?_⟩
  refine op2_run ka kb r h fun ca2 Hf2 H2 cs2 x y da db z n2 r2 hx hy hz h2 => ?_
  refine ⟨Hf2, da, db, z, hz, r2.ext, hx, hy, fun v Hf3 H3 g3 dv => ?_⟩
  obtain ⟨r3, n3⟩ := r2.gw g3
  exact h2 ca2 Hf3 H3 n3 r3 v dv
/-- a part of a slice -/
def DPo (X : Cx) (W : WX) (e : Option Expr) (f : List S → M (Option Int)) : Prop := ∃ t : TO, PO X e t ∧ ∀ (B : Hp) (ca : List Addr) (ρ : List S) (cs : Store) (Hf : Hp) (σ : L2.St) (H : Hp) (Q : Option Int → Hp → Prop), Rel B ca ρ cs Hf σ H →
  Gs X W B ca Hf ρ σ (f ρ cs) (fun ca' Hf' H' _ o => Q o H') → t σ H Q
theorem dpo_none : DPo X W none oNone := ⟨_, po_none, fun B ca ρ cs Hf σ H Q r h => h.ret_ r⟩
theorem dpo_some (ha : DE X W a fa) : DPo X W (some a) (oSome fa) := by
  obtain ⟨ta, pa, ka⟩ := ha
  refine ⟨_, po_some pa, fun B ca ρ cs Hf σ H Q r h => ?_⟩
  refine ka B ca ρ cs Hf σ H _ r (h.bind.mono fun ca1 Hf1 H1 cs1 s n1 r1 h1 v hv => ?_)
  cases s with
  | d x =>
    cases x with
    | int i =>
      have hv' : Dd Hf1 v (.int i) := hv
      cases hv'
      exact ⟨i, rfl, h1.ret_ r1⟩
    | _ => exact h1.elim
  | _ => exact h1.elim
theorem de_sl {lo hi : Option Expr} {p2 : Pos} {fl fh : List S → M (Option Int)} (ha : DE X W a fa) (hl : DPo X W lo fl) (hh : DPo X W hi fh) : DE X W (.Subscript a (.Slice lo hi none p2) pos) (eSl fa fl fh) := by
  obtain ⟨ta, pa, ka⟩ := ha
  obtain ⟨tl, pl, kl⟩ := hl
  obtain ⟨th, ph, kh⟩ := hh
  refine ⟨_, pe_slice sl_ok pa pl ph, fun B ca ρ cs Hf σ H Q r h => ?_⟩
  refine ka B ca ρ cs Hf σ H _ r (h.bind.mono fun ca1 Hf1 H1 cs1 s n1 r1 h1 v hv => ?_)
  refine kl B ca1 ρ cs1 Hf1 σ H1 _ r1 (h1.bind.mono fun ca2 Hf2 H2 cs2 o n2 r2 h2 => ?_)
  refine kh B ca2 ρ cs2 Hf2 σ H2 _ r2 (h2.bind.mono fun ca3 Hf3 H3 cs3 o' n3 r3 h3 => ?_)
  obtain ⟨d, e1, h4⟩ := vwM_ r3 h3
  obtain ⟨d', e2, h5⟩ := ofOb_ h4
  refine ⟨Hf3, d, d', e2, r3.ext, vw_ok r3 (hv.nx (n2.trans n3)) e1, fun w Hf4 H4 g4 dw => ?_⟩
  obtain ⟨r4, n4⟩ := r3.gw g4
  exact h5 ca3 Hf4 H4 n4 r4 w dw
end

def rCd (g : List D → Option D) : List V → Hp → VK → Prop := fun vs H Q => ∃ Hf ds d, g ds = some d ∧ Ex Hf H ∧ Lvs Hf H vs ds ∧ ∀ v Hf' H', Gw Hf H Hf' H' → Dd Hf' v d → Q v H'
where Lvs (Hf H : Hp) : List V → List D → Prop
  | [], [] => True
  | v :: vs, d :: ds => Lv Hf H v d ∧ Lvs Hf H vs ds
  | _, _ => False
def vws : List S → Store → Option (List D)
  | [], _ => some []
  | s :: r, cs => match vw s cs, vws r cs with
    | some d, some ds => some (d :: ds)
    | _, _ => none
def vwsM (ss : List S) : M (List D) := fun cs => match vws ss cs with
  | some ds => .ok ds cs
  | none => .no
def eCd (g : List D → Option D) (f : List S → M (List S)) (ρ : List S) : M S := bnd (f ρ) fun ss => bnd (vwsM ss) fun ds => bnd (ofO (g ds)) fun d => ret (.d d)
theorem vwsM_ {X : Cx} {W : WX} {B : Hp} {ca : List Addr} {Hf : Hp} {ρ : List S} {σ : L2.St} {cs : Store} {β : Type} {P : List Addr → Hp → Hp → Store → β → Prop} {a : List S} {k : List D → M β} (h : Gs X W B ca Hf ρ σ (bnd (vwsM a) k cs) P) : ∃ d, vws a cs = some d ∧ Gs X W B ca Hf ρ σ (k d cs) P := by
  unfold bnd vwsM at h
  cases e : vws a cs with
  | none => rw [e] at h; exact h.elim
  | some d => rw [e] at h; exact ⟨d, rfl, h⟩
theorem vws_ok {B : Hp} {ca : List Addr} {ρ : List S} {cs : Store} {Hf : Hp} {σ : L2.St} {H : Hp} (r : Rel B ca ρ cs Hf σ H) : ∀ {ss : List S} {vs : List V} {ds : List D}, SvsOk ca Hf ss vs → vws ss cs = some ds → rCd.Lvs Hf H vs ds
  | [], _, ds, h, e => by
    have : [] = ds := Option.some.inj e
    subst this
    cases h
    trivial
  | s :: ss, _, ds, h, e => by
    cases h with
    | cons h t =>
      unfold vws at e
      split at e
      · rename_i d ds' e1 e2
        cases e
        exact ⟨vw_ok r h e1, vws_ok r t e2⟩
      · cases e
section
variable {X : Cx} {W : WX} {a b e : Expr} {es : List Expr} {fa fb : List S → M S} {g : List S → M (List S)} {pos : Pos}
theorem eCd_run {gd : List D → Option D} {t : TA} (k : KA X W t g) {B : Hp} {ca : List Addr} {ρ : List S} {cs : Store} {Hf : Hp} {σ : L2.St} {H : Hp} {Q : VK} (r : Rel B ca ρ cs Hf σ H)
    (h : Gs X W B ca Hf ρ σ (eCd gd g ρ cs) (fun ca' Hf' H' _ s => ∀ v, SvOk ca' Hf' s v → Q v H')) : tCB (rCd gd) t σ H Q := by
  refine k B ca ρ cs Hf σ H _ r (h.bind.mono fun ca1 Hf1 H1 cs1 ss n1 r1 h1 vs hvs => ?_)
  obtain ⟨ds, e1, h2⟩ := vwsM_ h1
  obtain ⟨d, e2, h3⟩ := ofOb_ h2
  refine ⟨Hf1, ds, d, e2, r1.ext, vws_ok r1 hvs e1, fun v Hf2 H2 g2 dv => ?_⟩
  obtain ⟨r3, n3⟩ := r1.gw g2
  exact h3 ca1 Hf2 H2 n3 r3 v dv
theorem de_callB {x : Str} {id : String} {p : Pos} {gd : List D → Option D} (hc : CallR X (.builtin id) (rCd gd)) (hm : X.mg x = none) (hv : bootBuiltins x = some (.builtin id)) (ha : DA X W (e :: es) g) (hg : Gl X x := by rfl) (hn : x ≠ "__name__" := by decide) (hdb : (x == ("__debug__" : Str)) = false := by decide)
    (he : starEach (e :: es) X.env = (false, eval e X.env) :: starEach es X.env := by rfl) (hpl : (backTo pos (starEach es X.env)).any (·.1) = false := by rfl) : DE X W (.Call (.Name x p) (e :: es) [] pos) (eCd gd g) := by
  obtain ⟨tr, pr, kr⟩ := ha
  exact ⟨_, pe_callB hc hg hm hv pr hn hdb he hpl, fun B ca ρ cs Hf σ H Q r h => eCd_run kr r h⟩
theorem de_callT {x : Str} {T : String} {p : Pos} {gd : List D → Option D} (hc : CallR X (.type T) (rCd gd)) (hm : X.mg x = none) (hv : bootBuiltins x = some (.type T)) (ha : DA X W (e :: es) g) (hg : Gl X x := by rfl) (hn : x ≠ "__name__" := by decide) (hdb : (x == ("__debug__" : Str)) = false := by decide)
    (he : starEach (e :: es) X.env = (false, eval e X.env) :: starEach es X.env := by rfl) (hpl : (backTo pos (starEach es X.env)).any (·.1) = false := by rfl) : DE X W (.Call (.Name x p) (e :: es) [] pos) (eCd gd g) := by
  obtain ⟨tr, pr, kr⟩ := ha
  exact ⟨_, pe_callTy hc hg hm hv pr hn hdb he hpl, fun B ca ρ cs Hf σ H Q r h => eCd_run kr r h⟩
end
def lenG : List D → Option D
  | [d] => (lenD d).map fun n => .int n
  | _ => none
def minG : List D → Option D
  | [.int i, .int j] => some (.int (if j < i then j else i))
  | _ => none
def maxG : List D → Option D
  | [.int i, .int j] => some (.int (if j > i then j else i))
  | _ => none
def intG : List D → Option D
  | [.int i] => some (.int i)
  | [.bool b] => some (.int (if b then 1 else 0))
  | _ => none
def listG : List D → Option D
  | [.list xs] => some (.list xs)
  | [.tuple xs] => some (.list xs)
  | _ => none
def tupleG : List D → Option D
  | [.list xs] => some (.tuple xs)
  | [.tuple xs] => some (.tuple xs)
  | _ => none
section
variable {X : Cx}
theorem lvs_one {Hf H : Hp} {vs : List V} {d : D} (h : rCd.Lvs Hf H vs [d]) : ∃ v, vs = [v] ∧ Lv Hf H v d := by
  match vs, h with
  | [v], h => exact ⟨v, rfl, h.1⟩
  | v :: _ :: _, h => exact h.2.elim
theorem lvs_two {Hf H : Hp} {vs : List V} {d d' : D} (h : rCd.Lvs Hf H vs [d, d']) : ∃ v v', vs = [v, v'] ∧ Lv Hf H v d ∧ Lv Hf H v' d' := by
  match vs, h with
  | [v, v'], h => exact ⟨v, v', rfl, h.1, h.2.1⟩
  | [_], h => exact h.2.elim
  | _ :: _ :: _ :: _, h => exact h.2.2.elim
theorem len_ok : CallR X (.builtin "len") (rCd lenG) := by
  intro pins s σ H xs us Q I r h
  obtain ⟨Hf, ds, d, e, ex, hl, q⟩ := h
  unfold lenG at e
  split at e
  · rename_i d0
    obtain ⟨v, rfl, hv⟩ := lvs_one hl
    cases z : lenD d0 with
    | none => rw [z] at e; cases e
    | some n =>
      rw [z] at e
      cases e
      refine call_len pins s σ H _ us Q I r ⟨v, n, rfl, ?_, q _ _ _ (Gw.refl ex) (.int _)⟩
      have d1 := hv.1
      cases d1 with
      | str x =>
        have z' : (if x.length ≤ sizeLine then some x.length else none) = some n := z
        split at z'
        · cases z'; exact ⟨by assumption, rfl⟩
        · cases z'
      | lst h a => cases z; exact .inl ⟨_, .inl h, (dps_len a).symm⟩
      | tup h a => cases z; exact .inr ⟨_, .inl h.rd, (dps_len a).symm⟩
      | _ => cases z
  · cases e
theorem min_ok (hc : X.calm = true) : CallR X (.builtin "min") (rCd minG) := by
  intro pins s σ H xs us Q I r h
  obtain ⟨Hf, ds, d, e, ex, hl, q⟩ := h
  unfold minG at e
  split at e
  · cases e
    obtain ⟨v, v', rfl, h1, h2⟩ := lvs_two hl
    have := h1.int_; subst this
    have := h2.int_; subst this
    exact call_min2 hc pins s σ H _ us Q I r ⟨_, _, rfl, q _ _ _ (Gw.refl ex) (.int _)⟩
  · cases e
theorem max_ok (hc : X.calm = true) : CallR X (.builtin "max") (rCd maxG) := by
  intro pins s σ H xs us Q I r h
  obtain ⟨Hf, ds, d, e, ex, hl, q⟩ := h
  unfold maxG at e
  split at e
  · cases e
    obtain ⟨v, v', rfl, h1, h2⟩ := lvs_two hl
    have := h1.int_; subst this
    have := h2.int_; subst this
    exact call_max2 hc pins s σ H _ us Q I r ⟨_, _, rfl, q _ _ _ (Gw.refl ex) (.int _)⟩
  · cases e
theorem int_ok : CallR X (.type "int") (rCd intG) := by
  intro pins s σ H xs us Q I r h
  obtain ⟨Hf, ds, d, e, ex, hl, q⟩ := h
  unfold intG at e
  split at e
  · cases e
    obtain ⟨v, rfl, h1⟩ := lvs_one hl
    have := h1.int_; subst this
    exact call_int1 pins s σ H _ us Q I r (.inl ⟨_, rfl, q _ _ _ (Gw.refl ex) (.int _)⟩)
  · cases e
    obtain ⟨v, rfl, h1⟩ := lvs_one hl
    have := h1.bl_; subst this
    exact call_int1 pins s σ H _ us Q I r (.inr ⟨_, rfl, q _ _ _ (Gw.refl ex) (.int _)⟩)
  · cases e
theorem list_ok : CallR X (.type "list") (rCd listG) := by
  intro pins s σ H xs us Q I r h
  obtain ⟨Hf, ds, d, e, ex, hl, q⟩ := h
  unfold listG at e
  split at e
  · cases e
    obtain ⟨v, rfl, h1⟩ := lvs_one hl
    obtain ⟨a, vs, rfl, g1, g2⟩ := h1.lst
    refine call_list_of pins s σ H _ us Q I r ⟨a, vs, rfl, .inl (.inl g1), fun l hl => ?_⟩
    have g := Gw.new (o := .lst vs) ex hl
    exact q _ _ _ g (.lst (.inl upd_same) (dps_ex g.ex g2))
  · cases e
    obtain ⟨v, rfl, h1⟩ := lvs_one hl
    obtain ⟨a, vs, rfl, g1, g2⟩ := h1.tup
    refine call_list_of pins s σ H _ us Q I r ⟨a, vs, rfl, .inr (.inl g1), fun l hl => ?_⟩
    have g := Gw.new (o := .lst vs) ex hl
    exact q _ _ _ g (.lst (.inl upd_same) (dps_ex g.ex g2))
  · cases e
theorem tuple_ok : CallR X (.type "tuple") (rCd tupleG) := by
  intro pins s σ H xs us Q I r h
  obtain ⟨Hf, ds, d, e, ex, hl, q⟩ := h
  unfold tupleG at e
  split at e
  · cases e
    obtain ⟨v, rfl, h1⟩ := lvs_one hl
    obtain ⟨a, vs, rfl, g1, g2⟩ := h1.lst
    refine call_tupleF pins s σ H _ us Q I r ⟨a, vs, rfl, .inl ⟨.inl g1, fun l o hl ho => ?_⟩⟩
    have g := Gw.new (o := .frz o (.tup vs)) ex hl
    exact q _ _ _ g (.tup ⟨o, upd_same, ho⟩ (dps_ex g.ex g2))
  · cases e
    obtain ⟨v, rfl, h1⟩ := lvs_one hl
    obtain ⟨a, vs, rfl, g1, g2⟩ := h1.tup
    exact call_tupleF pins s σ H _ us Q I r ⟨a, vs, rfl, .inr ⟨.inl g1, q _ _ _ (Gw.refl ex) (h1.flat fun _ z => nomatch z)⟩⟩
  · cases e
/-- isinstance(x, T), T a built-in class -/
def eIsa (T : String) (fa : List S → M S) (ρ : List S) : M S := bnd (op1 (fun d => some (isaD T d)) fa ρ) fun b => ret (.d (.bool b))
theorem kit_isa {K : PySem.W.Frag} {H : Hp} {v : V} {d : D} {T : String} (h : Dd H v d) (hT : T = "int" ∨ T = "bool" ∨ T = "str" ∨ T = "list" ∨ T = "tuple" ∨ T = "dict") : PySem.W.kitOne K (.type (tyD d)) (.type T) = some (isaD T d) := by
  cases h <;> rcases hT with rfl | rfl | rfl | rfl | rfl | rfl <;> (refine kit_ty ?_; first | decide +kernel | rfl)
theorem de_isa {W : WX} {a : Expr} {fa : List S → M S} {p p2 pos : Pos} {T : String} {TS : Str} (ha : DE X W a fa) (hm : X.mg "isinstance" = none) (hmT : X.mg TS = none) (hT : T = "int" ∨ T = "bool" ∨ T = "str" ∨ T = "list" ∨ T = "tuple" ∨ T = "dict") (hv : bootBuiltins TS = some (.type T)) (hg : Gl X "isinstance" := by rfl) (hgT : Gl X TS := by rfl)
    (hn : TS ≠ "__name__" := by decide) (hdb : (TS == ("__debug__" : Str)) = false := by decide)
    (h1 : starEach [a, .Name TS p2] X.env = (false, eval a X.env) :: starEach [.Name TS p2] X.env := by rfl) (h2 : starEach [.Name TS p2] X.env = (false, eval (.Name TS p2) X.env) :: starEach [] X.env := by rfl) (h3 : (backTo pos (starEach [.Name TS p2] X.env)).any (·.1) = false := by rfl) :
    DE X W (.Call (.Name "isinstance" p) [a, .Name TS p2] [] pos) (eIsa T fa) := by
  obtain ⟨ta, pa, ka⟩ := ha
  refine ⟨_, pe_callB call_isi hg hm (by decide +kernel) (pa_cons pa (pa_cons (pe_bltn (v := .ty T) hgT hmT hv rfl hn hdb) pa_nil h2) h1) (by decide) (by decide) h1 h3, fun B ca ρ cs Hf σ H Q r h => ?_⟩
  refine op1_run ka r h fun ca2 Hf2 H2 cs2 x da z n2 r2 hx hz h2 => ?_
  cases hz
  exact ⟨x, .ty T, _, _, _, rfl, .ty T, ty_dd hx.1, kit_isa hx.1 hT, h2.ret_ r2 _ (.bl _)⟩
end
end Dn

set_option Elab.async false
set_option linter.all false
set_option maxRecDepth 100000
set_option maxHeartbeats 1000000
namespace Dn
open PySem L2
inductive Out where
  | nx (ρ : List S) (cs : Store)
  | rt (r : Rv) (cs : Store)
  | bk (ρ : List S) (cs : Store)
  | ct (ρ : List S) (cs : Store)
  | er (c : Str) (ρ : List S) (cs : Store)
  | no
abbrev G := List S → Store → Out
section
variable (X : Cx) (W : WX)
def GO (B : Hp) (ca : List Addr) (Hf : Hp) (En : Ends) : Out → Prop
  | .nx ρ cs => ∀ ca' Hf' σ' H', Nx ca Hf ca' Hf' → Rel B ca' ρ cs Hf' σ' H' → En.nx σ' H'
  | .rt r cs => ∀ ca' Hf' ρ' σ' H' v, Nx ca Hf ca' Hf' → Rel B ca' ρ' cs Hf' σ' H' → RvOk B ca' Hf' H' r v → En.rt v H'
  | .bk ρ cs => ∀ ca' Hf' σ' H', Nx ca Hf ca' Hf' → Rel B ca' ρ cs Hf' σ' H' → En.bk σ' H'
  | .ct ρ cs => ∀ ca' Hf' σ' H', Nx ca Hf ca' Hf' → Rel B ca' ρ cs Hf' σ' H' → En.ct σ' H'
  | .er c ρ cs => ∀ ca' Hf' σ' H' cls, Nx ca Hf ca' Hf' → Rel B ca' ρ cs Hf' σ' H' → X.mg c = some cls → W cls none σ' H'
  | .no => False
abbrev KS (t : TS) (g : G) : Prop := ∀ (B : Hp) (ca : List Addr) (ρ : List S) (cs : Store) (Hf : Hp) (σ : L2.St) (H : Hp) (En : Ends), Rel B ca ρ cs Hf σ H → GO X W B ca Hf En (g ρ cs) → t En σ H
def DSt (st : Stmt) (g : G) : Prop := ∃ t : TS, PS X st t ∧ KS X W t g
def DSs (st : List Stmt) (g : G) : Prop := ∃ t : TS, PSs X st t ∧ KS X W t g
end
def stp {α : Type} (m : M α) (k : α → Store → Out) (ρ : List S) (cs : Store) : Out := match m cs with
  | .ok a cs' => k a cs'
  | .er c cs' => .er c ρ cs'
  | .no => .no
def gNil : G := fun ρ cs => .nx ρ cs
def gSeq (g h : G) : G := fun ρ cs => match g ρ cs with
  | .nx ρ' cs' => h ρ' cs'
  | o => o
def sSet (i : Nat) (f : List S → M S) : G := fun ρ => stp (f ρ) (fun s cs => .nx (ρ.set i s) cs) ρ
def sNew (i : Nat) (f : List S → M Rv) : G := fun ρ => stp (f ρ) (fun r cs => match r with
  | .own o => .nx (ρ.set i (.cel cs.length)) (cs ++ [o])
  | .d x => .nx (ρ.set i (.d x)) cs
  | .cel j => .nx (ρ.set i (.cel j)) cs
  | .pr _ _ => .no
  | .cp _ _ => .no) ρ
def sRet (f : List S → M Rv) : G := fun ρ => stp (f ρ) (fun r cs => .rt r cs) ρ
def sRetN : G := fun _ cs => .rt (.d .none) cs
def sExp (f : List S → M S) : G := fun ρ => stp (f ρ) (fun _ cs => .nx ρ cs) ρ
def sIf (t : List S → M Bool) (g h : G) : G := fun ρ => stp (t ρ) (fun b cs => if b = true then g ρ cs else h ρ cs) ρ
def sErr (c : Str) : G := fun ρ cs => .er c ρ cs
def gPass : G := fun ρ cs => .nx ρ cs
def gBrk : G := fun ρ cs => .bk ρ cs
def gCon : G := fun ρ cs => .ct ρ cs
section
variable {X : Cx} {W : WX} {B : Hp} {ca ca1 : List Addr} {Hf Hf1 H : Hp} {ρ : List S} {σ : L2.St} {cs : Store} {En En' : Ends} {α : Type}
theorem GO.fwd {o : Out} (h : GO X W B ca Hf En o) (n : Nx ca Hf ca1 Hf1) : GO X W B ca1 Hf1 En o := by
  cases o with
  | nx ρ cs => exact fun ca' Hf' σ' H' n' r => h ca' Hf' σ' H' (n.trans n') r
  | rt v cs => exact fun ca' Hf' ρ' σ' H' v n' r => h ca' Hf' ρ' σ' H' v (n.trans n') r
  | bk ρ cs => exact fun ca' Hf' σ' H' n' r => h ca' Hf' σ' H' (n.trans n') r
  | ct ρ cs => exact fun ca' Hf' σ' H' n' r => h ca' Hf' σ' H' (n.trans n') r
  | er c ρ cs => exact fun ca' Hf' σ' H' cls n' r => h ca' Hf' σ' H' cls (n.trans n') r
  | no => exact h
theorem GO.stp_ {m : M α} {k : α → Store → Out} (h : GO X W B ca Hf En (stp m k ρ cs)) : Gs X W B ca Hf ρ σ (m cs) (fun ca1 Hf1 _ cs1 a => GO X W B ca1 Hf1 En (k a cs1)) := by
  unfold stp at h
  cases e : m cs with
  | ok a cs1 => rw [e] at h; exact fun ca1 Hf1 H1 n r => GO.fwd h n
  | er c cs1 => rw [e] at h; exact fun ca' Hf' H' cls n r => h ca' Hf' σ H' cls n r
  | no => rw [e] at h; exact h
theorem GO.nx_ (h : GO X W B ca Hf En (.nx ρ cs)) (r : Rel B ca ρ cs Hf σ H) : En.nx σ H := h ca Hf σ H Nx.refl r
end
section
variable {X : Cx} {W : WX} {st : Stmt} {sts : List Stmt} {g h : G} {a : Expr} {f : List S → M S} {fr : List S → M Rv} {pos : Pos}
theorem dss_nil : DSs X W [] gNil := ⟨_, pss_nil, fun B ca ρ cs Hf σ H En r h => h.nx_ r⟩
theorem dss_one (hs : DSt X W st g) : DSs X W [st] g := let ⟨t, p, k⟩ := hs; ⟨t, pss_one p, k⟩
theorem dss_cons (hs : DSt X W st g) (ht : DSs X W sts h) : DSs X W (st :: sts) (gSeq g h) := by
  obtain ⟨t, p, k⟩ := hs
  obtain ⟨u, q, l⟩ := ht
  refine ⟨_, pss_cons p q, fun B ca ρ cs Hf σ H En r hg => ?_⟩
  refine k B ca ρ cs Hf σ H { En with nx := u En } r ?_
  unfold gSeq at hg
  cases e : g ρ cs with
  | nx ρ' cs' => rw [e] at hg; exact fun ca' Hf' σ' H' n r' => l B ca' ρ' cs' Hf' σ' H' En r' (GO.fwd hg n)
  | rt v cs' => rw [e] at hg; exact hg
  | bk ρ' cs' => rw [e] at hg; exact hg
  | ct ρ' cs' => rw [e] at hg; exact hg
  | er c ρ' cs' => rw [e] at hg; exact hg
  | no => rw [e] at hg; exact hg
theorem dst_con : DSt X W (.Continue pos) gCon := ⟨_, ps_continue, fun B ca ρ cs Hf σ H En r h => h ca Hf σ H Nx.refl r⟩
theorem dst_set (i : Nat) {x : Str} {pos' : Pos} (hN : X.N.Nodup) (ha : DE X W a f) (hi : X.N[i]? = some x := by rfl) (hx : Loc X.env.scope x := by first | exact Or.inl rfl | exact Or.inr rfl) (hs : swapsWith a (some (.Name x pos')) pos.line X.env = pure false := by rfl)
    (hf : X.fn x = true ∨ X.env.scope.names.lookup x = some .local := by first | exact .inl rfl | exact .inr rfl) : DSt X W (.Assign [.Name x pos'] a pos) (sSet i f) := by
  obtain ⟨t, p, k⟩ := ha
  refine ⟨_, ps_set hN hi hx p hs hf, fun B ca ρ cs Hf σ H En r hg => ?_⟩
  refine k B ca ρ cs Hf σ H _ r (hg.stp_.mono fun ca1 Hf1 H1 cs1 s n1 r1 h1 v hv => ?_)
  exact h1.nx_ (r1.set i hv)
theorem dst_new (i : Nat) {x : Str} {pos' : Pos} (hN : X.N.Nodup) (ha : DO X W a fr) (hi : X.N[i]? = some x := by rfl) (hx : Loc X.env.scope x := by first | exact Or.inl rfl | exact Or.inr rfl) (hs : swapsWith a (some (.Name x pos')) pos.line X.env = pure false := by rfl)
    (hf : X.fn x = true ∨ X.env.scope.names.lookup x = some .local := by first | exact .inl rfl | exact .inr rfl) : DSt X W (.Assign [.Name x pos'] a pos) (sNew i fr) := by
  obtain ⟨t, p, k⟩ := ha
  refine ⟨_, ps_set hN hi hx p hs hf, fun B ca ρ cs Hf σ H En r hg => ?_⟩
  refine k B ca ρ cs Hf σ H _ r (hg.stp_.mono fun ca1 Hf1 H1 cs1 rv n1 r1 h1 v hv => ?_)
  cases rv with
  | d x => exact h1.nx_ (r1.set (s := .d x) i hv)
  | cel j => exact h1.nx_ (r1.set (s := .cel j) i hv)
  | own o =>
    obtain ⟨a, rfl, r2, e2⟩ := r1.alloc hv
    exact h1 (ca1 ++ [a]) Hf1 _ H1 ⟨List.prefix_append _ _, fun _ _ h => h⟩ (r2.set (s := .cel cs1.length) i ⟨a, e2, rfl⟩)
  | pr x xs => exact h1.elim
  | cp j x => exact h1.elim
theorem dst_ret (ha : DO X W a fr) : DSt X W (.Return (some a) pos) (sRet fr) := by
  obtain ⟨t, p, k⟩ := ha
  refine ⟨_, ps_ret p, fun B ca ρ cs Hf σ H En r hg => ?_⟩
  exact k B ca ρ cs Hf σ H _ r (hg.stp_.mono fun ca1 Hf1 H1 cs1 rv n1 r1 h1 v hv => h1 ca1 Hf1 ρ σ H1 v Nx.refl r1 hv)
theorem dst_exp (ha : DE X W a f) (hs : swapsWith a none pos.line X.env = pure false := by rfl) : DSt X W (.Expr a pos) (sExp f) := by
  obtain ⟨t, p, k⟩ := ha
  refine ⟨_, ps_expr p hs, fun B ca ρ cs Hf σ H En r hg => ?_⟩
  exact k B ca ρ cs Hf σ H _ r (hg.stp_.mono fun ca1 Hf1 H1 cs1 rv n1 r1 h1 v hv => h1.nx_ r1)
theorem dst_if {t : List S → M Bool} {p q : List Stmt} (hc : DT X W a t) (hp : DSs X W p g) (hq : DSs X W q h) : DSt X W (.If a p q pos) (sIf t g h) := by
  obtain ⟨tc, pc, kc⟩ := hc
  obtain ⟨tp, pp, kp⟩ := hp
  obtain ⟨tq, pq, kq⟩ := hq
  refine ⟨_, ps_if pc pp pq, fun B ca ρ cs Hf σ H En r hg => ?_⟩
  refine kc B ca ρ cs Hf σ H _ r (hg.stp_.mono fun ca1 Hf1 H1 cs1 b n1 r1 h1 => ?_)
  cases b with
  | true => exact kp B ca1 ρ cs1 Hf1 σ H1 En r1 h1
  | false => exact kq B ca1 ρ cs1 Hf1 σ H1 En r1 h1
/-- raise X('..') -/
theorem dst_raise {C : Addr} {x m : Str} {j : Nat} {p p2 p3 : Pos} {bmB : List Value} {Bn newId initId : String} (tk : Takes X W) (F : ExcBaseFacts Bn newId initId bmB) (q : PySem.W.excIn X.K C bmB newId = true) (gC : X.mg x = some (.ref C)) (kC : PySem.W.keepIn X.K (.ref C) = true) (rs : Raises X (.ref C))
    (hc : X.calm = true := by rfl) (hg : Gl X x := by rfl) (hdb : (x == ("__debug__" : Str)) = false := by decide) : DSt X W (.Raise (some (.Call (.Name x p) [.Constant (.str m) j p2] [] p3)) none pos) (sErr x) :=
  ⟨_, ps_raise hc tk (pmk_own F q gC kC rs hg hdb), fun B ca ρ cs Hf σ H En r h => h ca Hf σ H _ Nx.refl r gC⟩
end

def gFor (tg : D → List S → Option (List S)) (body : G) : List D → G
  | [], ρ, cs => .nx ρ cs
  | x :: xs, ρ, cs => match tg x ρ with
    | none => .no
    | some ρ1 => match body ρ1 cs with
      | .nx ρ' cs' => gFor tg body xs ρ' cs'
      | .ct ρ' cs' => gFor tg body xs ρ' cs'
      | .bk ρ' cs' => .nx ρ' cs'
      | .rt r cs' => .rt r cs'
      | .er c ρ' cs' => .er c ρ' cs'
      | .no => .no
/-- a target -/
def DG (X : Cx) (tg : Expr) (g : D → List S → Option (List S)) : Prop := ∃ t : TG, PG X tg t ∧ ∀ (B : Hp) (ca : List Addr) (ρ ρ' : List S) (cs : Store) (Hf : Hp) (σ : L2.St) (H : Hp) (v : V) (d : D) (Q : L2.St → Hp → Prop), Rel B ca ρ cs Hf σ H → Dd Hf v d → g d ρ = some ρ' →
  (∀ σ', Rel B ca ρ' cs Hf σ' H → Q σ' H) → t v σ H Q
def gtN (i : Nat) (d : D) (ρ : List S) : Option (List S) := some (ρ.set i (.d d))
def gtT (gs : List D → List S → Option (List S)) (d : D) (ρ : List S) : Option (List S) := match d with
  | .tuple xs => gs xs ρ
  | _ => none
def gtsNil (xs : List D) (ρ : List S) : Option (List S) := match xs with
  | [] => some ρ
  | _ => none
def gtsCons (g : D → List S → Option (List S)) (gs : List D → List S → Option (List S)) (xs : List D) (ρ : List S) : Option (List S) := match xs with
  | x :: r => (g x ρ).bind (gs r)
  | [] => none
def DGs (X : Cx) (tgs : List Expr) (g : List D → List S → Option (List S)) : Prop := ∃ t : TGs, PGs X tgs t ∧ ∀ (B : Hp) (ca : List Addr) (ρ ρ' : List S) (cs : Store) (Hf : Hp) (σ : L2.St) (H : Hp) (vs : List V) (ds : List D) (Q : L2.St → Hp → Prop), Rel B ca ρ cs Hf σ H → Dds Hf vs ds → g ds ρ = some ρ' →
  (∀ σ', Rel B ca ρ' cs Hf σ' H → Q σ' H) → t vs σ H Q
section
variable {X : Cx} {pos : Pos}
theorem dg_name (i : Nat) {x : Str} (hN : X.N.Nodup) (hi : X.N[i]? = some x := by rfl) (hx : Loc X.env.scope x := by first | exact Or.inl rfl | exact Or.inr rfl)
    (hf : X.fn x = true ∨ X.env.scope.names.lookup x = some .local := by first | exact .inl rfl | exact .inr rfl) : DG X (.Name x pos) (gtN i) := by
  refine ⟨_, pg_name hN hi hx hf, fun B ca ρ ρ' cs Hf σ H v d Q r hv e q => ?_⟩
  cases e
  exact q _ (r.set i hv)
theorem dgs_nil : DGs X [] gtsNil := by
  refine ⟨_, pgs_nil, fun B ca ρ ρ' cs Hf σ H vs ds Q r hv e q => ?_⟩
  unfold gtsNil at e
  split at e
  · cases e
    cases hv
    exact ⟨rfl, q _ r⟩
  · cases e
theorem dgs_cons {tg : Expr} {tgs : List Expr} {g : D → List S → Option (List S)} {gs : List D → List S → Option (List S)} (h : DG X tg g) (hs : DGs X tgs gs)
    (he : (assignEach (tg :: tgs) X.env).map (·.2) = assign tg X.env :: (assignEach tgs X.env).map (·.2) := by rfl) : DGs X (tg :: tgs) (gtsCons g gs) := by
  obtain ⟨t, p, k⟩ := h
  obtain ⟨u, q, l⟩ := hs
  refine ⟨_, pgs_cons p q he, fun B ca ρ ρ' cs Hf σ H vs ds Q r hv e qq => ?_⟩
  unfold gtsCons at e
  split at e
  · rename_i x xs
    cases hv with
    | cons hv ht =>
      cases z : g x ρ with
      | none => rw [z] at e; cases e
      | some ρ1 =>
        rw [z] at e
        exact ⟨_, _, rfl, k B ca ρ ρ1 cs Hf σ H _ _ _ r hv z fun σ1 r1 => l B ca ρ1 ρ' cs Hf σ1 H _ _ Q r1 ht e qq⟩
  · cases e
theorem dg_tup {es : List Expr} {k : Nat} {gs : List D → List S → Option (List S)} (n : Nat) (hs : DGs X es gs) (hl : ∀ ds ρ ρ', gs ds ρ = some ρ' → ds.length = n) (hc : X.calm = true := by rfl)
    (hn : (assignEach es X.env).length = n := by rfl) (hst : (assignEach es X.env).findIdx? (·.1) = none := by rfl) : DG X (.Tuple es k pos) (gtT gs) := by
  obtain ⟨u, q, l⟩ := hs
  refine ⟨_, pg_tup hc q hn hst, fun B ca ρ ρ' cs Hf σ H v d Q r hv e qq => ?_⟩
  unfold gtT at e
  split at e
  · rename_i xs
    cases hv with
    | tup h1 h2 =>
      exact ⟨_, _, rfl, .inl (rd_ex r.ext h1.rd), (dps_len h2).trans (hl _ _ _ e), l B ca ρ ρ' cs Hf σ H _ _ Q r h2 e qq⟩
  · cases e
end
theorem gts_len0 (ds : List D) (ρ ρ' : List S) (h : gtsNil ds ρ = some ρ') : ds.length = 0 := by
  unfold gtsNil at h
  split at h
  · rfl
  · cases h
theorem gts_lenS {g : D → List S → Option (List S)} {gs : List D → List S → Option (List S)} {n : Nat} (hl : ∀ ds ρ ρ', gs ds ρ = some ρ' → ds.length = n) (ds : List D) (ρ ρ' : List S) (h : gtsCons g gs ds ρ = some ρ') : ds.length = n + 1 := by
  unfold gtsCons at h
  split at h
  · rename_i x r
    cases z : g x ρ with
    | none => rw [z] at h; cases h
    | some ρ1 => rw [z] at h; rw [List.length_cons, hl _ _ _ h]
  · cases h

/-- what is walked: the items are given ahead of the first turn -/
def DI (X : Cx) (W : WX) (tg iter : Expr) (f : List S → M (List D)) : Prop := ∃ wi : TI, PI X tg iter wi ∧ ∀ (B : Hp) (ca : List Addr) (ρ : List S) (cs : Store) (Hf : Hp) (σ : L2.St) (H : Hp) (R : It → Hp → Prop), Rel B ca ρ cs Hf σ H →
  Gs X W B ca Hf ρ σ (f ρ cs) (fun ca' Hf' H' cs' xs => ∀ J, (∀ B2 ca2 ρ2 cs2 Hf2 σ2 H2 (i : Nat), Nx ca' Hf' ca2 Hf2 → Rel B2 ca2 ρ2 cs2 Hf2 σ2 H2 → i ≤ xs.length →
      (i = xs.length → J.stop i H2) ∧ (i < xs.length → J.go i H2 ∧ ∀ x H3, J.yld i H2 x H3 → ∃ Hf3, Nx ca2 Hf2 ca2 Hf3 ∧ Rel B2 ca2 ρ2 cs2 Hf3 σ2 H3 ∧ ∃ d, xs[i]? = some d ∧ Dd Hf3 x d)) → R J H') → wi σ H R
def iSeq (f : List S → M S) (ρ : List S) : M (List D) := bnd (f ρ) fun s => match s with
  | .d (.list xs) => ret xs
  | _ => stuck
def iTupM (f : List S → M S) (ρ : List S) : M (List D) := bnd (f ρ) fun s => match s with
  | .d (.tuple xs) => ret xs
  | _ => stuck
def rngD (lo : Int) (n : Nat) : List D := (List.range n).map fun i => .int (lo + (i : Nat))
def iRng (f : List S → M S) (ρ : List S) : M (List D) := bnd (f ρ) fun s => match s with
  | .d (.int j) => if -(2 ^ 62) ≤ j ∧ j < 2 ^ 62 then ret (rngD 0 j.toNat) else stuck
  | _ => stuck
theorem rngD_get {lo : Int} {n i : Nat} (h : i < n) : (rngD lo n)[i]? = some (.int (lo + (i : Nat))) := by
  unfold rngD
  rw [List.getElem?_map, List.getElem?_range h]; rfl
theorem rngD_len {lo : Int} {n : Nat} : (rngD lo n).length = n := by unfold rngD; simp
section
variable {X : Cx} {W : WX} {a b tg : Expr} {fa fb : List S → M S} {pos : Pos}
theorem di_rng {p : Pos} (ha : DE X W a fa) (hm : X.mg "range" = none) (hg : Gl X "range" := by rfl) (hs : starEach [a] X.env = [(false, eval a X.env)] := by rfl) : DI X W tg (.Call (.Name "range" p) [a] [] pos) (iRng fa) := by
  obtain ⟨t, q, k⟩ := ha
  refine ⟨_, pi_range1 hg hm (pa_cons q pa_nil hs) hs, fun B ca ρ cs Hf σ H R r h => ?_⟩
  refine k B ca ρ cs Hf σ H _ r (h.bind.mono fun ca1 Hf1 H1 cs1 s n1 r1 h1 v hv => ?_)
  cases s with
  | d x =>
    cases x with
    | int j =>
      have hv' : Dd Hf1 v (.int j) := hv
      cases hv'
      have h2 : Gs X W B ca1 Hf1 ρ σ ((if -(2 ^ 62) ≤ j ∧ j < 2 ^ 62 then ret (rngD 0 j.toNat) else stuck) cs1) _ := h1
      split at h2
      · rename_i hz
        refine ⟨j, rfl, hz.1, hz.2, ?_⟩
        refine (h2.ret_ r1) _ fun B2 ca2 ρ2 cs2 Hf2 σ2 H2 i n2 r2 hi => ⟨fun e => ?_, fun hi' => ?_⟩
        · rw [rngD_len] at e; exact Nat.le_of_eq e.symm
        · rw [rngD_len] at hi'
          refine ⟨hi', fun x H3 y => ?_⟩
          obtain ⟨rfl, rfl⟩ := y
          exact ⟨Hf2, Nx.refl, r2, _, rngD_get hi', .int _⟩
      · exact h2.elim
    | _ => exact h1.elim
  | _ => exact h1.elim
def sFor (tg : D → List S → Option (List S)) (it : List S → M (List D)) (body : G) : G := fun ρ => stp (it ρ) (fun xs cs => gFor tg body xs ρ cs) ρ
theorem dst_for {body : List Stmt} {g : D → List S → Option (List S)} {it : List S → M (List D)} {gb : G} (hp : PassesOwn (model X.prog X.w) X.A X.env X.xe) (hi : DI X W tg a it) (hg : DG X tg g) (hb : DSs X W body gb) (hc : X.calm = true := by rfl)
    (hs : ∀ x, foldedSetIterable a X.env x = pure x := by intro _; rfl) : DSt X W (.For tg a body [] pos) (sFor g it gb) := by
  obtain ⟨wi, pi, ki⟩ := hi
  obtain ⟨tgt, pg, kg⟩ := hg
  obtain ⟨tb, pb, kb⟩ := hb
  refine ⟨_, ps_for hp hc pi pg pb hs, fun B ca ρ cs Hf σ H En r h => ?_⟩
  refine ki B ca ρ cs Hf σ H _ r (h.stp_.mono fun ca1 Hf1 H1 cs1 xs n1 r1 h1 J hJ => ?_)
  refine ⟨fun i m σ2 H2 => m = xs.length - i ∧ i ≤ xs.length ∧ ∃ ca2 ρ2 cs2 Hf2, Nx ca1 Hf1 ca2 Hf2 ∧ Rel B ca2 ρ2 cs2 Hf2 σ2 H2 ∧ GO X W B ca2 Hf2 En (gFor g gb (xs.drop i) ρ2 cs2), ⟨xs.length, by simp, Nat.zero_le _, ca1, ρ, cs1, Hf1, Nx.refl, r1, h1⟩, ?_⟩
  rintro i m σ2 H2 ⟨rfl, hi, ca2, ρ2, cs2, Hf2, n2, r2, h2⟩
  obtain ⟨hstop, hgo⟩ := hJ B ca2 ρ2 cs2 Hf2 σ2 H2 i n2 r2 hi
  by_cases hlt : i < xs.length
  · obtain ⟨go, yl⟩ := hgo hlt
    refine .inr ⟨go, fun σ' H' => i + 1 ≤ xs.length ∧ ∃ ca2 ρ2 cs2 Hf2, Nx ca1 Hf1 ca2 Hf2 ∧ Rel B ca2 ρ2 cs2 Hf2 σ' H' ∧ GO X W B ca2 Hf2 En (gFor g gb (xs.drop (i + 1)) ρ2 cs2), fun σ' H' p' => ⟨xs.length - (i + 1), by omega, rfl, p'.1, p'.2⟩, fun x H3 y => ?_⟩
    obtain ⟨Hf3, n3, r3, d, ed, hd⟩ := yl x H3 y
    have ed' : xs.drop i = d :: xs.drop (i + 1) := by
      rw [List.drop_eq_getElem_cons hlt]
      rw [List.getElem?_eq_getElem hlt] at ed
      rw [Option.some.inj ed]
    rw [ed'] at h2
    have h2' : GO X W B ca2 Hf2 En (match g d ρ2 with
      | none => .no
      | some ρ1 => match gb ρ1 cs2 with
        | .nx ρ' cs' => gFor g gb (xs.drop (i + 1)) ρ' cs'
        | .ct ρ' cs' => gFor g gb (xs.drop (i + 1)) ρ' cs'
        | .bk ρ' cs' => .nx ρ' cs'
        | .rt r cs' => .rt r cs'
        | .er c ρ' cs' => .er c ρ' cs'
        | .no => .no) := h2
    cases eg : g d ρ2 with
    | none => rw [eg] at h2'; exact h2'.elim
    | some ρ1 =>
      rw [eg] at h2'
      have h3 : GO X W B ca2 Hf2 En (match gb ρ1 cs2 with
        | .nx ρ' cs' => gFor g gb (xs.drop (i + 1)) ρ' cs'
        | .ct ρ' cs' => gFor g gb (xs.drop (i + 1)) ρ' cs'
        | .bk ρ' cs' => .nx ρ' cs'
        | .rt r cs' => .rt r cs'
        | .er c ρ' cs' => .er c ρ' cs'
        | .no => .no) := h2'
      refine kg B ca2 ρ2 ρ1 cs2 Hf3 σ2 H3 x d _ r3 hd eg fun σ4 r4 => ?_
      refine kb B ca2 ρ1 cs2 Hf3 σ4 H3 _ r4 ?_
      have h4 := GO.fwd h3 n3
      cases eb : gb ρ1 cs2 with
      | nx ρ' cs' => rw [eb] at h4; exact fun ca' Hf' σ' H' n' r' => ⟨hlt, ca', ρ', cs', Hf', (n2.trans n3).trans n', r', GO.fwd h4 n'⟩
      | ct ρ' cs' => rw [eb] at h4; exact fun ca' Hf' σ' H' n' r' => ⟨hlt, ca', ρ', cs', Hf', (n2.trans n3).trans n', r', GO.fwd h4 n'⟩
      | bk ρ' cs' => rw [eb] at h4; exact fun ca' Hf' σ' H' n' r' => h4 ca' Hf' σ' H' n' r'
      | rt v cs' => rw [eb] at h4; exact h4
      | er c ρ' cs' => rw [eb] at h4; exact h4
      | no => rw [eb] at h4; exact h4.elim
  · have e : i = xs.length := by omega
    refine .inl ⟨hstop e, ?_⟩
    rw [e, List.drop_length] at h2
    exact GO.nx_ (show GO X W B ca2 Hf2 En (.nx ρ2 cs2) from h2) r2
def gWhile (t : List S → M Bool) (body : G) : Nat → G
  | 0, _, _ => .no
  | n + 1, ρ, cs => stp (t ρ) (fun b cs => if b = true then (match body ρ cs with
      | .nx ρ' cs' => gWhile t body n ρ' cs'
      | .ct ρ' cs' => gWhile t body n ρ' cs'
      | .bk ρ' cs' => .nx ρ' cs'
      | .rt r cs' => .rt r cs'
      | .er c ρ' cs' => .er c ρ' cs'
      | .no => .no) else .nx ρ cs) ρ cs
/-- the fuel may be any number -/
def sWhile (fuel : List S → Store → Nat) (t : List S → M Bool) (body : G) : G := fun ρ cs => gWhile t body (fuel ρ cs) ρ cs
theorem dst_while (fuel : List S → Store → Nat) {body : List Stmt} {t : List S → M Bool} {gb : G} (hp : PassesOwn (model X.prog X.w) X.A X.env X.xe) (hc : DT X W a t) (hb : DSs X W body gb) : DSt X W (.While a body [] pos) (sWhile fuel t gb) := by
  obtain ⟨tc, pc, kc⟩ := hc
  obtain ⟨tb, pb, kb⟩ := hb
  refine ⟨_, ps_while hp pc pb, fun B ca ρ cs Hf σ H En r h => ?_⟩
  refine ⟨fun m σ2 H2 => ∃ ca2 ρ2 cs2 Hf2, Rel B ca2 ρ2 cs2 Hf2 σ2 H2 ∧ GO X W B ca2 Hf2 En (gWhile t gb m ρ2 cs2), ⟨_, ca, ρ, cs, Hf, r, h⟩, ?_⟩
  rintro m σ2 H2 ⟨ca2, ρ2, cs2, Hf2, r2, h2⟩
  cases m with
  | zero => exact (show False from h2).elim
  | succ m =>
    have h2' : GO X W B ca2 Hf2 En (stp (t ρ2) (fun b cs => if b = true then (match gb ρ2 cs with
      | .nx ρ' cs' => gWhile t gb m ρ' cs'
      | .ct ρ' cs' => gWhile t gb m ρ' cs'
      | .bk ρ' cs' => .nx ρ' cs'
      | .rt r cs' => .rt r cs'
      | .er c ρ' cs' => .er c ρ' cs'
      | .no => .no) else .nx ρ2 cs) ρ2 cs2) := h2
    refine kc B ca2 ρ2 cs2 Hf2 σ2 H2 _ r2 (h2'.stp_.mono fun ca3 Hf3 H3 cs3 b n3 r3 h3 => ?_)
    cases b with
    | false => exact GO.nx_ (show GO X W B ca3 Hf3 En (.nx ρ2 cs3) from h3) r3
    | true =>
      have h4 : GO X W B ca3 Hf3 En (match gb ρ2 cs3 with
        | .nx ρ' cs' => gWhile t gb m ρ' cs'
        | .ct ρ' cs' => gWhile t gb m ρ' cs'
        | .bk ρ' cs' => .nx ρ' cs'
        | .rt r cs' => .rt r cs'
        | .er c ρ' cs' => .er c ρ' cs'
        | .no => .no) := h3
      refine ⟨fun σ' H' => ∃ ca2 ρ2 cs2 Hf2, Rel B ca2 ρ2 cs2 Hf2 σ' H' ∧ GO X W B ca2 Hf2 En (gWhile t gb m ρ2 cs2), fun σ' H' p' => ⟨m, Nat.lt_succ_self _, p'⟩, ?_⟩
      refine kb B ca3 ρ2 cs3 Hf3 σ2 H3 _ r3 ?_
      cases eb : gb ρ2 cs3 with
      | nx ρ' cs' => rw [eb] at h4; exact fun ca' Hf' σ' H' n' r' => ⟨ca', ρ', cs', Hf', r', GO.fwd h4 n'⟩
      | ct ρ' cs' => rw [eb] at h4; exact fun ca' Hf' σ' H' n' r' => ⟨ca', ρ', cs', Hf', r', GO.fwd h4 n'⟩
      | bk ρ' cs' => rw [eb] at h4; exact fun ca' Hf' σ' H' n' r' => h4 ca' Hf' σ' H' n' r'
      | rt v cs' => rw [eb] at h4; exact h4
      | er c ρ' cs' => rw [eb] at h4; exact h4
      | no => rw [eb] at h4; exact h4.elim
end
end Dn

set_option Elab.async false
set_option linter.all false
set_option maxRecDepth 100000
set_option maxHeartbeats 1000000
namespace Dn
open PySem L2
/-- a method that changes the list of a cell: the answer, the new items -/
def rMt (g : List D → List D → Option (D × List D)) : V → List V → Hp → VK → Prop := fun x vs H Q => ∃ Hf l ws xs ds d ys, g xs ds = some (d, ys) ∧ Ex Hf H ∧ x = .ref l ∧ H l = some (.lst ws) ∧ Dds Hf ws xs ∧ Dds Hf vs ds ∧ xs.length ≤ sizeLine ∧
  ∀ v us, Dd Hf v d → Dds Hf us ys → Q v (upd H l (.lst us))
def celM (s : S) : M (Nat × List D) := fun cs => match s with
  | .cel j => match cs[j]? with
    | some (.lst xs) => .ok (j, xs) cs
    | _ => .no
  | _ => .no
def putM (j : Nat) (o : OC) : M Unit := fun cs => .ok () (cs.set j o)
def fin_ (g : List D → List D → Option (D × List D)) (s : S) (ss : List S) : M S :=
  bnd (celM s) fun p => bnd (ofO (asD ss)) fun ds => bnd (ofO (if p.2.length ≤ sizeLine then g p.2 ds else none)) fun q => bnd (putM p.1 (.lst q.2)) fun _ => ret (.d q.1)
def eMt (g : List D → List D → Option (D × List D)) (fo : List S → M S) (fa : List S → M (List S)) (ρ : List S) : M S := bnd (fo ρ) fun s => bnd (celM s) fun _ => bnd (fa ρ) fun ss => fin_ g s ss
def eMt0 (g : List D → List D → Option (D × List D)) (fo : List S → M S) (ρ : List S) : M S := bnd (fo ρ) fun s => fin_ g s []
def appG : List D → List D → Option (D × List D)
  | xs, [d] => if xs.length < sizeLine then some (.none, xs ++ [d]) else none
  | _, _ => none
def extG : List D → List D → Option (D × List D)
  | xs, [.list ys] => if xs.length + ys.length ≤ sizeLine then some (.none, xs ++ ys) else none
  | _, _ => none
def popG : List D → List D → Option (D × List D)
  | xs, [] => (xs[xs.length - 1]?).map fun d => (d, xs.dropLast)
  | _, _ => none
section
variable {X : Cx} {W : WX} {B : Hp} {ca : List Addr} {Hf H : Hp} {ρ : List S} {σ : L2.St} {cs : Store} {β : Type} {P : List Addr → Hp → Hp → Store → β → Prop}
theorem celM_ {a : S} {k : Nat × List D → M β} (h : Gs X W B ca Hf ρ σ (bnd (celM a) k cs) P) : ∃ j xs, a = .cel j ∧ cs[j]? = some (.lst xs) ∧ Gs X W B ca Hf ρ σ (k (j, xs) cs) P := by
  unfold bnd celM at h
  cases a with
  | cel j =>
    cases e : cs[j]? with
    | none => simp only [e] at h; exact h.elim
    | some o =>
      cases o with
      | lst xs => simp only [e] at h; exact ⟨j, xs, rfl, e, h⟩
      | _ => simp only [e] at h; exact h.elim
  | _ => exact h.elim
end
section
variable {X : Cx} {W : WX} {o e : Expr} {es : List Expr} {fo fb : List S → M S} {fa : List S → M (List S)} {name : Str} {id : String} {apos cpos pos : Pos} {g : List D → List D → Option (D × List D)}
theorem ty_cel {B : Hp} {ca : List Addr} {ρ : List S} {cs : Store} {Hf : Hp} {σ : L2.St} {H : Hp} {j : Nat} {xs : List D} {x : V} (r : Rel B ca ρ cs Hf σ H) (hx : SvOk ca Hf (.cel j) x) (e : cs[j]? = some (.lst xs)) :
    ∃ l ws, x = .ref l ∧ ca[j]? = some l ∧ H l = some (.lst ws) ∧ Dds Hf ws xs := by
  obtain ⟨l, h1, rfl⟩ := hx
  obtain ⟨ws, g1, g2⟩ := r.cell e h1
  exact ⟨l, ws, rfl, h1, g1, g2⟩
theorem fin_run {B : Hp} {ca : List Addr} {ρ : List S} {cs : Store} {Hf : Hp} {σ : L2.St} {H : Hp} {Q : VK} {s : S} {ss : List S} {x : V} {vs : List V} (r : Rel B ca ρ cs Hf σ H) (hx : SvOk ca Hf s x) (hv : SvsOk ca Hf ss vs)
    (h : Gs X W B ca Hf ρ σ (fin_ g s ss cs) (fun ca' Hf' H' _ s => ∀ v, SvOk ca' Hf' s v → Q v H')) : rMt g x vs H Q := by
  obtain ⟨j, xs, rfl, e1, h1⟩ := celM_ h
  obtain ⟨ds, e2, h2⟩ := ofOb_ h1
  obtain ⟨q, e3, h3⟩ := ofOb_ h2
  obtain ⟨l, ws, rfl, c1, c2, c3⟩ := ty_cel r hx e1
  dsimp only at e3
  split at e3
  · rename_i hz
    refine ⟨Hf, l, ws, xs, ds, q.1, q.2, e3, r.ext, rfl, c2, c3, asD_dds e2 hv, hz, fun v us hd hu => ?_⟩
    have r2 : Rel B ca ρ (cs.set j (.lst q.2)) Hf σ (upd H l (.lst us)) := r.write c1 (fun _ _ z => by rw [c2] at z; cases z) ⟨us, upd_same, hu⟩
    exact h3 ca Hf _ Nx.refl r2 v hd
  · cases e3
theorem eMt_run {to : TE} {t : TA} (ko : KE X W to fo) (kt : KA X W t fa) {B : Hp} {ca : List Addr} {ρ : List S} {cs : Store} {Hf : Hp} {σ : L2.St} {H : Hp} {Q : VK} (r : Rel B ca ρ cs Hf σ H)
    (h : Gs X W B ca Hf ρ σ (eMt g fo fa ρ cs) (fun ca' Hf' H' _ s => ∀ v, SvOk ca' Hf' s v → Q v H')) : tBM X.K "list" (rMt g) to t σ H Q := by
  refine ko B ca ρ cs Hf σ H _ r (h.bind.mono fun ca1 Hf1 H1 cs1 s n1 r1 h1 x hx => ?_)
  obtain ⟨j, xs, rfl, e1, h2⟩ := celM_ h1
  obtain ⟨l, ws, rfl, c1, c2, c3⟩ := ty_cel r1 hx e1
  refine ⟨.inl ⟨rfl, ws, .inl (.inl c2)⟩, ?_⟩
  exact kt B ca1 ρ cs1 Hf1 σ H1 _ r1 (h2.bind.mono fun ca2 Hf2 H2 cs2 ss n2 r2 h3 vs hvs => fin_run r2 (hx.nx n2) hvs h3)
theorem de_mt (slot : Slot "list" name id) (hty : typeOf (.builtin id) = pure (.type "method_descriptor")) (hm : MtR X id (rMt g)) (ho : DE X W o fo) (ha : DA X W (e :: es) fa)
    (hbase : attributeBase o name X.env (eval o X.env) = eval o X.env := by rfl)
    (hfew : ((backTo cpos (starEach (e :: es) X.env)).all (fun x => !x.1) && (backToKw cpos (keywordEach [] X.env)).all (fun x => x.1.isSome)
      && decide ((e :: es).length + ([] : List Keyword).length + (if ([] : List Keyword).isEmpty then 0 else 1) < 30)) = true := by rfl)
    (hline : (apos.endLine == cpos.line) = true := by rfl) (hs : starEach (e :: es) X.env = (false, eval e X.env) :: starEach es X.env := by rfl) (hplain : (backTo cpos (starEach es X.env)).any (·.1) = false := by rfl) :
    DE X W (.Call (.Attribute o name apos) (e :: es) [] cpos) (eMt g fo fa) := by
  obtain ⟨to, po, ko⟩ := ho
  obtain ⟨t, p, k⟩ := ha
  exact ⟨_, pe_bm PySem.F.plainAttrs_list slot hty hm po p hbase hfew hline hs hplain, fun B ca ρ cs Hf σ H Q r h => eMt_run ko k r h⟩
theorem dds_one {Hf : Hp} {vs : List V} {d : D} (h : Dds Hf vs [d]) : ∃ v, vs = [v] ∧ Dd Hf v d := by
  cases h with
  | cons h t => cases t; exact ⟨_, rfl, h⟩
theorem app_ok : MtR X "list.append" (rMt appG) := by
  intro pins s σ H x vs v us Q I rx rv h
  obtain ⟨Hf, l, ws, xs, ds, d, ys, e, ex, rfl, c2, c3, hl, hz, q⟩ := h
  unfold appG at e
  split at e
  · rename_i d0
    split at e
    · rename_i hlt
      cases e
      obtain ⟨y, rfl, hy⟩ := dds_one hl
      exact mt_append pins s σ H _ _ v us Q I rx rv ⟨l, ws, y, rfl, rfl, c2, by rw [dps_len c3]; exact hlt, q _ _ .non (dps_app c3 (.cons hy .nil))⟩
    · cases e
  · cases e
theorem ext_ok : MtR X "list.extend" (rMt extG) := by
  intro pins s σ H x vs v us Q I rx rv h
  obtain ⟨Hf, l, ws, xs, ds, d, ys, e, ex, rfl, c2, c3, hl, hz, q⟩ := h
  unfold extG at e
  split at e
  · rename_i zs
    split at e
    · rename_i hlt
      cases e
      obtain ⟨y, rfl, hy⟩ := dds_one hl
      cases hy with
      | lst g1 g2 =>
        rename_i b vs2
        cases rx
        obtain ⟨u, rfl, ru⟩ := rv.one
        cases ru
        have l1 := dps_len c3
        have l2 := dps_len g2
        obtain ⟨z, its, n, r, hl, e⟩ := I.lstM c2
        obtain ⟨z2, its2, n2, r2, hl2, e2⟩ := Inv.rdl I (rd_ex ex g1)
        have hsz : its.toArray.size + its2.toArray.size ≤ sizeLine := by rw [List.size_toArray, List.size_toArray]; omega
        have hlong : ¬ (!its.toArray.isEmpty && Builtin.List.listTooLong (its.toArray.size + its2.toArray.size)) = true := by
          rw [notLongL hsz, Bool.and_false]
          exact Bool.false_ne_true
        refine PySem.call_meets PySem.F.slot_list_extend ⟨_, e, rfl⟩ PySem.F.entry_list_extend (PySem.F.args_list_extend_2 _ _)
          (AutoSeq1.list_extend_list_list_0 l its.toArray n b its2.toArray n2 hlong (by rw [List.size_toArray]; omega) (by omega)) ⟨e, e2, ?_⟩
        refine ⟨.non, _, I.lset (its' := its ++ its2) c2 e (by simp) (r.append r2) ?_, rfl, q _ _ .non (dps_app c3 g2)⟩
        rw [List.length_append]
        omega
    · cases e
  · cases e
end
/-- xs[i] = e, xs a cell -/
def sSub (fo fi fe : List S → M S) : G := fun ρ => stp (bnd (fe ρ) fun e => bnd (fo ρ) fun o => bnd (fi ρ) fun i => bnd (celM o) fun p => match e, i with
  | .d x, .d (.int k) => bnd (ofO (ixN p.2.length k)) fun j => putM p.1 (.lst (p.2.set j x))
  | _, _ => stuck) (fun _ cs => .nx ρ cs) ρ
section
variable {X : Cx} {W : WX} {o i e : Expr} {fo fi fe : List S → M S} {pos pos' : Pos}
theorem dst_sub (he : DE X W e fe) (ho : DE X W o fo) (hi : DE X W i fi)
    (ha : ∀ v, assign (.Subscript o i pos') X.env v = (do
      let ov ← holding [v] (eval o X.env)
      let iv ← holding [v, ov] (eval i X.env)
      standAt pos'
      holding [v, ov, iv] (setItem ov iv v)
      release [v, ov, iv] []) := by intro _; rfl)
    (hs : swapsWithSole [.Subscript o i pos'] e pos.line X.env = pure false := by rfl) (hw : swappedStores [.Subscript o i pos'] e X.env = pure none := by rfl)
    (h1 : (assignEach [.Subscript o i pos'] X.env).map (·.2) = [assign (.Subscript o i pos') X.env] := by rfl) : DSt X W (.Assign [.Subscript o i pos'] e pos) (sSub fo fi fe) := by
  obtain ⟨te, pe, ke⟩ := he
  obtain ⟨to, po, ko⟩ := ho
  obtain ⟨ti, pi, ki⟩ := hi
  refine ⟨_, ps_asg pe (pg_sub po pi set_list ha) hs hw h1, fun B ca ρ cs Hf σ H En r hg => ?_⟩
  refine ke B ca ρ cs Hf σ H _ r (hg.stp_.bind.mono fun ca1 Hf1 H1 cs1 s1 n1 r1 h1 v hv => ?_)
  refine ko B ca1 ρ cs1 Hf1 σ H1 _ r1 (h1.bind.mono fun ca2 Hf2 H2 cs2 s2 n2 r2 h2 x hx => ?_)
  refine ki B ca2 ρ cs2 Hf2 σ H2 _ r2 (h2.bind.mono fun ca3 Hf3 H3 cs3 s3 n3 r3 h3 y hy => ?_)
  obtain ⟨j, xs, rfl, e1, h4⟩ := celM_ h3
  obtain ⟨l, ws, rfl, c1, c2, c3⟩ := ty_cel r3 (hx.nx n3) e1
  cases s1 with
  | d z =>
    cases s3 with
    | d w =>
      cases w with
      | int k =>
        have hy' : Dd Hf3 y (.int k) := hy
        cases hy'
        have h5 : Gs X W B ca3 Hf3 ρ σ (bnd (ofO (ixN xs.length k)) (fun m => putM j (.lst (xs.set m z))) cs3) _ := h4
        obtain ⟨m, e2, h6⟩ := ofOb_ h5
        have hz : Dd Hf3 v z := dp_ex n3.ex (dp_ex n2.ex hv)
        refine ⟨l, ws, k, m, rfl, rfl, c2, by rw [dps_len c3]; exact e2, ?_⟩
        have r4 : Rel B ca3 ρ (cs3.set j (.lst (xs.set m z))) Hf3 σ (upd H3 l (.lst (ws.set m v))) := r3.write c1 (fun _ _ z => by rw [c2] at z; cases z) ⟨_, upd_same, dps_set m c3 hz⟩
        exact GO.nx_ (h6 ca3 Hf3 _ Nx.refl r4) r4
      | _ => exact h4.elim
    | _ => exact h4.elim
  | _ => exact h4.elim
end

def okc (n : Nat) (cs : Store) : Bool := (cs.take n).all OC.pl
def fin (n : Nat) : Out → Res Rv
  | .nx _ cs => if okc n cs = true then .ok (.d .none) (cs.take n) else .no
  | .rt (.cel j) cs => if okc n cs = true then (if j < n then .ok (.cel j) (cs.take n) else match cs[j]? with
    | some o => if o.pl = true then .ok (.own o) (cs.take n) else .no
    | none => .no) else .no
  | .rt (.cp j x) cs => if okc n cs = true then (if j < n then .no else match cs[j]? with
    | some (.lst xs) => .ok (.d (.list [.list xs, x])) (cs.take n)
    | _ => .no) else .no
  | .rt r cs => if okc n cs = true then .ok r (cs.take n) else .no
  | .er c _ cs => if okc n cs = true then .er c (cs.take n) else .no
  | _ => .no
theorem okc_at {n : Nat} {cs : Store} (h : okc n cs = true) {j : Nat} {o : OC} (e : (cs.take n)[j]? = some o) : o.pl = true := by
  unfold okc at h
  rw [List.all_eq_true] at h
  exact h o (List.mem_of_getElem? e)
/-- a def's mirror by its body's -/
def runG (m : Nat) (g : G) (ss : List S) : M Rv := fun cs => fin cs.length (g (ss ++ List.replicate m .no) cs)
/-- a def's promise: it does what F says -/
def spE (mg : Str → Option Value) (n : Nat) (F : List S → M Rv) : Sp := fun vs H Q E => vs.length = n ∧ ∃ B ca cs Hf ss, Rel B ca ss cs Hf (vs.map some) H ∧ match F ss cs with
  | .ok r cs' => ∀ Hf' H' v, Ex Hf Hf' → Rel B ca ss cs' Hf' (vs.map some) H' → RvOk B ca Hf' H' r v → Q v H'
  | .er c cs' => ∀ Hf' H' cls, Ex Hf Hf' → Rel B ca ss cs' Hf' (vs.map some) H' → mg c = some cls → E cls none H'
  | .no => False
theorem Rel.cut {B : Hp} {ca ca' : List Addr} {ρ ρ' : List S} {cs cs' : Store} {Hf Hf' : Hp} {σ σ' : L2.St} {H H' : Hp} (r0 : Rel B ca ρ cs Hf σ H) (n : Nx ca Hf ca' Hf') (r : Rel B ca' ρ' cs' Hf' σ' H') (hp : okc cs.length cs' = true) : Rel B ca ρ (cs'.take cs.length) Hf' σ H' := by
  obtain ⟨t, ht⟩ := n.pre
  have hlen : ca.length = cs.length := r0.lenc
  have hlen' : ca'.length = cs'.length := r.lenc
  have hle : ca.length ≤ ca'.length := by rw [← ht, List.length_append]; omega
  refine ⟨r.ext, r0.len, fun i s e => ?_, fun j o e => ?_, ?_, r0.nd, fun a m => r.off a (n.pre.subset m), r.exb, fun a m => ⟨(r.dis a m).1, (r.dis a m).2.imp (fun h z => h (n.pre.subset z)) id⟩⟩
  · rcases r0.sl i s e with z | ⟨v, h1, h2⟩
    · exact .inl z
    · refine .inr ⟨v, h1, ?_⟩
      cases s with
      | no => exact h2
      | d x => exact dp_ex n.ex h2
      | fn a => exact h2
      | cel j => exact h2
  · have hj : j < cs.length := by
      have := (List.getElem?_eq_some_iff.mp e).1
      rw [List.length_take] at this
      omega
    have po := okc_at hp e
    rw [List.getElem?_take_of_lt hj] at e
    obtain ⟨a, g1, g2⟩ := r.cells j o e
    refine ⟨a, ?_, g2.of_pl po⟩
    rw [← ht, List.getElem?_append_left (by omega)] at g1
    exact g1
  · rw [List.length_take]
    omega
theorem RvOk.cut {B : Hp} {ca ca' : List Addr} {cs : Store} {Hf Hf' H' : Hp} {r : Rv} {v : V} (n : Nx ca Hf ca' Hf') (h : RvOk B ca' Hf' H' r v) (hr : ∀ j, r = .cel j → j < ca.length) (hc : r.ncp = true := by rfl) : RvOk B ca Hf' H' r v := by
  cases r with
  | d x => exact h
  | own o =>
    obtain ⟨a, e, h1, h2, h3, h4⟩ := h
    exact ⟨a, e, h1, h2, fun z => h3 (n.pre.subset z), h4⟩
  | cp j x => cases hc
  | pr x xs =>
    obtain ⟨a, w, b, e, h1, h2, h3, h4, h5, h6⟩ := h
    exact ⟨a, w, b, e, h1, h2, h3, h4, fun z => h5 (n.pre.subset z), h6⟩
  | cel j =>
    obtain ⟨a, h1, e⟩ := h
    obtain ⟨t, ht⟩ := n.pre
    rw [← ht, List.getElem?_append_left (hr j rfl)] at h1
    exact ⟨a, h1, e⟩
section
variable {P : Program} {w : World} {K : PySem.W.Frag} {mg : Str → Option Value} {base : Heap} {x qual : Str} {params : Arguments} {body : List Stmt} {scope : Scope} {dvs : List V} {kws : List (Str × V)} {f : Addr} {fd : FuncData} {N ps : List Str} {k : Nat} {F : List S → M Rv}
/-- the body's context -/
abbrev BX (P : Program) (w : World) (K : PySem.W.Frag) (mg : Str → Option Value) (base : Heap) (N : List Str) (qual : Str) (scope : Scope) (f : Addr) (cd : Value) (A : Around) (outer : List Env) (s : Shared) (H : Hp) (E : XK) : Cx := cxOf (L2.CX P w) P w K mg base N qual scope f cd A outer s H E
abbrev BW (E : XK) : WX := fun cls d _ H => E cls d H
theorem takesB {cdv : Value} {A : Around} {outer : List Env} {s : Shared} {H : Hp} {E : XK} : Takes (BX P w K mg base N qual scope f cdv A outer s H E) (BW E) := takes_of rfl rfl rfl rfl
theorem passesB {cdv : Value} {A : Around} {outer : List Env} {s : Shared} {H : Hp} {E : XK} : PassesOwn (model P w) (BX P w K mg base N qual scope f cdv A outer s H E).A (BX P w K mg base N qual scope f cdv A outer s H E).env (BX P w K mg base N qual scope f cdv A outer s H E).xe := passes_of rfl
/-- THE RULE: a def by its body -/
theorem def_ok (Fd : FunD K x qual params body scope dvs kws f fd) (S : FnScope N ps scope) {g : G} (m : Nat) (hm : N.length = ps.length + m)
    (hbody : ∀ (cdv : Value) (A : Around) (outer : List Env) (s : Shared) (H : Hp) (E : XK), Room k (A.deeper (PyProof.Rows.envOfC qual scope s.heap.objs.size f cdv)) → Takes (BX P w K mg base N qual scope f cdv A outer s H E) (BW E) →
      PassesOwn (model P w) (BX P w K mg base N qual scope f cdv A outer s H E).A (BX P w K mg base N qual scope f cdv A outer s H E).env (BX P w K mg base N qual scope f cdv A outer s H E).xe → DSs (BX P w K mg base N qual scope f cdv A outer s H E) (BW E) body g) :
    FnOk P w K mg base (L2.CX P w) (k + 1) f fd ps (spE mg ps.length (runG m g)) := by
  refine Fd.ok S (fun vs H Q E h => h.1) (fun cdv A outer s H vs Q E hr h => ?_)
  obtain ⟨hl, B, ca, cs, Hf, ss, r, h⟩ := h
  obtain ⟨t, pt, kt⟩ := hbody cdv A outer s H E hr takesB passesB
  refine ⟨t, pt, ?_⟩
  have hss : ss.length = vs.length := by
    have := r.len
    rw [List.length_map] at this
    exact this.symm
  have hst : L2.start N vs = vs.map some ++ List.replicate m none := by
    unfold L2.start
    rw [hm, hl, Nat.add_sub_cancel_left]
  have r1 : Rel B ca (ss ++ List.replicate m .no) cs Hf (L2.start N vs) H := by
    rw [hst]
    refine r.slots (by simp [hss]) fun i sl e => ?_
    by_cases hi : i < ss.length
    · rw [List.getElem?_append_left hi] at e
      rcases r.sl i sl e with z | ⟨v, h1, h2⟩
      · exact .inl z
      · exact .inr ⟨v, by rw [List.getElem?_append_left (by simp; omega)]; exact h1, h2⟩
    · rw [List.getElem?_append_right (by omega), List.getElem?_replicate] at e
      split at e
      · cases e; exact .inl rfl
      · cases e
  refine kt B ca _ cs Hf _ H _ r1 ?_
  have hlc := r.lenc
  unfold runG at h
  cases e : g (ss ++ List.replicate m .no) cs with
  | nx ρ' cs' =>
    rw [e] at h
    by_cases c : okc cs.length cs' = true
    · simp only [fin, if_pos c] at h
      exact fun ca' Hf' σ' H' n r' => h Hf' H' .non n.ex (r.cut n r' c) .non
    · simp only [fin, if_neg c] at h <;> exact h.elim
  | rt rv cs' =>
    rw [e] at h
    by_cases c : okc cs.length cs' = true
    · intro ca' Hf' ρ' σ' H' v n r' hv
      have rc := r.cut n r' c
      cases rv with
      | d x =>
        simp only [fin, if_pos c] at h
        exact h Hf' H' v n.ex rc (hv.cut (cs := cs) n fun j z => nomatch z)
      | own o =>
        simp only [fin, if_pos c] at h
        exact h Hf' H' v n.ex rc (hv.cut (cs := cs) n fun j z => nomatch z)
      | pr x xs =>
        simp only [fin, if_pos c] at h
        exact h Hf' H' v n.ex rc (hv.cut (cs := cs) n fun j z => nomatch z)
      | cp j x =>
        by_cases hj : j < cs.length
        · simp only [fin, if_pos c, if_pos hj] at h
        · obtain ⟨a, b, w, rfl, h1, hb, hw, ha1, ha2, ha3⟩ := hv
          have hj' : j < cs'.length := by rw [← r'.lenc]; exact (List.getElem?_eq_some_iff.mp hb).1
          have mb : b ∈ ca' := List.mem_of_getElem? hb
          simp only [fin, if_pos c, if_neg hj] at h
          cases ej : cs'[j]? with
          | none => simp only [ej] at h
          | some o =>
            cases o with
            | lst xs =>
              simp only [ej] at h
              obtain ⟨b2, g1, us, g2, g3⟩ := r'.cells j _ ej
              rw [hb] at g1; cases g1
              have nb : b ∉ ca := fun z => by
                obtain ⟨t, ht⟩ := n.pre
                obtain ⟨i, hi, ei⟩ := List.mem_iff_getElem.mp z
                have e3 : ca'[i]? = some b := by rw [← ht, List.getElem?_append_left hi]; simp [hi, ei]
                have := nd_ix r'.nd hb e3
                have := rc.lenc
                have := r.lenc
                omega
              have bb : B b = none := r'.bn mb (fun _ _ z => by rw [g2] at z; cases z)
              have nab : a ≠ b := fun z => ha2 (z ▸ mb)
              obtain ⟨rc2, x2⟩ := rc.freeze g2 (r'.off b mb) nb bb
              obtain ⟨rc3, x3⟩ := rc2.freeze (p := a) h1 (by rw [upd_ne nab]; exact ha1) (fun z => ha2 (n.pre.subset z)) ha3
              refine h _ H' _ (fun p q z => x3 p q (x2 p q (n.ex p q z))) rc3 (show Dd _ _ _ from .lst (.inl upd_same) (.cons (.lst (.inl ?_) (dps_ex (fun p q z => x3 p q (x2 p q z)) g3)) (.cons (dp_ex (fun p q z => x3 p q (x2 p q z)) hw) .nil)))
              rw [upd_ne (Ne.symm nab)]; exact upd_same
            | _ => simp only [ej] at h
      | cel j =>
        by_cases hj : j < cs.length
        · simp only [fin, if_pos c, if_pos hj] at h
          exact h Hf' H' v n.ex rc (hv.cut (cs := cs) n fun j' z => by cases z; omega)
        · obtain ⟨a, h1, rfl⟩ := hv
          have hj' : j < cs'.length := by rw [← r'.lenc]; exact (List.getElem?_eq_some_iff.mp h1).1
          obtain ⟨b, g1, g2⟩ := r'.cells j cs'[j] (by simp [hj'])
          rw [h1] at g1; cases g1
          have ma : a ∈ ca' := List.mem_of_getElem? h1
          simp only [fin, if_pos c, if_neg hj, List.getElem?_eq_getElem hj'] at h
          by_cases po : cs'[j].pl = true
          · simp only [if_pos po] at h
            refine h Hf' H' _ n.ex rc ⟨a, rfl, g2.of_pl po, r'.off a ma, fun z => ?_, ?_⟩
            · obtain ⟨t, ht⟩ := n.pre
              obtain ⟨i, hi, ei⟩ := List.mem_iff_getElem.mp z
              have e3 : ca'[i]? = some a := by rw [← ht, List.getElem?_append_left hi]; simp [hi, ei]
              have := nd_ix r'.nd h1 e3
              omega
            · exact r'.bn ma (g2.nf po)
          · simp only [if_neg po] at h <;> exact h.elim
    · cases rv <;> (simp only [fin, if_neg c] at h <;> exact h.elim)
  | er c ρ' cs' =>
    rw [e] at h
    by_cases c1 : okc cs.length cs' = true
    · simp only [fin, if_pos c1] at h
      exact fun ca' Hf' σ' H' cls n r' hc => h Hf' H' cls n.ex (r.cut n r' c1) hc
    · simp only [fin, if_neg c1] at h <;> exact h.elim
  | bk ρ' cs' => rw [e] at h; exact h.elim
  | ct ρ' cs' => rw [e] at h; exact h.elim
  | no => rw [e] at h; exact h.elim
end
end Dn

set_option Elab.async false
set_option linter.all false
set_option maxRecDepth 100000
set_option maxHeartbeats 1000000
namespace Dn
open PySem L2
/-- no cell among them -/
def noCel : List S → Bool
  | [] => true
  | .cel _ :: _ => false
  | _ :: r => noCel r
/-- a call that is handed no cell -/
def callP (F : List S → M Rv) (ss : List S) : M Rv := fun cs => if noCel ss = true then (match F ss [] with
  | .ok (.d x) _ => .ok (.d x) cs
  | .ok (.own o) _ => .ok (.own o) cs
  | .ok (.cel _) _ => .no
  | .ok (.pr _ _) _ => .no
  | .ok (.cp _ _) _ => .no
  | .er c _ => .er c cs
  | .no => .no) else .no
/-- a call that is handed one cell, ahead -/
def callC (F : List S → M Rv) (ss : List S) : M Rv := fun cs => match ss with
  | .cel j :: r => if noCel r = true then (match cs[j]? with
    | some o => if o.pl = true then (match F (.cel 0 :: r) [o] with
      | .ok (.d x) [o'] => if o'.pl = true then .ok (.d x) (cs.set j o') else .no
      | .ok (.own u) [o'] => if o'.pl = true then .ok (.own u) (cs.set j o') else .no
      | .ok (.cel 0) [o'] => if o'.pl = true then .ok (.cel j) (cs.set j o') else .no
      | .er c [o'] => if o'.pl = true then .er c (cs.set j o') else .no
      | _ => .no) else .no
    | none => .no) else .no
  | _ => .no
def eCall (F : List S → M Rv) (g : List S → M (List S)) (ρ : List S) : M Rv := bnd (g ρ) (callP F)
def eCallC (F : List S → M Rv) (g : List S → M (List S)) (ρ : List S) : M Rv := bnd (g ρ) (callC F)
/-- the i-th slot holds the def at a; it lets nothing out -/
def eCallL (i : Nat) (a : Addr) (F : List S → M Rv) (g : List S → M (List S)) (ρ : List S) : M Rv := fun cs => match ρ[i]? with
  | some (.fn b) => if b = a then bnd (g ρ) (fun ss cs => match callP F ss cs with
    | .er _ _ => .no
    | o => o) cs else .no
  | _ => .no
section
variable {B : Hp} {ca : List Addr} {ρ : List S} {cs : Store} {Hf Hf' : Hp} {σ : L2.St} {H H' : Hp} {ss : List S} {vs : List V}
theorem nocel_sv : ∀ {ss : List S} {vs : List V} {ca' : List Addr}, noCel ss = true → SvsOk ca Hf ss vs → SvsOk ca' Hf ss vs
  | [], _, _, _, h => by cases h; exact .nil
  | .no :: r, _, _, e, h => by cases h with | cons h t => exact h.elim
  | .d x :: r, _, _, e, h => by cases h with | cons h t => exact .cons h (nocel_sv (show noCel r = true from e) t)
  | .fn a :: r, _, _, e, h => by cases h with | cons h t => exact .cons h (nocel_sv (show noCel r = true from e) t)
  | .cel j :: r, _, _, e, h => by cases e
theorem slots_of {ca' : List Addr} (h : SvsOk ca' Hf ss vs) (i : Nat) (s : S) (e : ss[i]? = some s) : s = .no ∨ ∃ v, (vs.map some)[i]? = some (some v) ∧ SvOk ca' Hf s v := by
  obtain ⟨v, h1, h2⟩ := h.get e
  exact .inr ⟨v, by rw [List.getElem?_map, h1] <;> rfl, h2⟩
/-- what a callee may not touch: all but what is frozen and what it is handed -/
def ban (Hf H : Hp) (ca' : List Addr) : Hp := fun a => if Hf a = none ∧ a ∉ ca' then H a else none
theorem ban_some {ca' : List Addr} {a : Addr} {o : HO} (h1 : Hf a = none) (h2 : a ∉ ca') (h3 : H a = some o) : ban Hf H ca' a = some o := by
  unfold ban; rw [if_pos ⟨h1, h2⟩]; exact h3
theorem ban_of {ca' : List Addr} {a : Addr} (h : ban Hf H ca' a ≠ none) : Hf a = none ∧ a ∉ ca' := by
  unfold ban at h
  by_cases q : Hf a = none ∧ a ∉ ca'
  · exact q
  · rw [if_neg q] at h; exact absurd rfl h
theorem ban_ex {ca' : List Addr} : Ex (ban Hf H ca') H := fun a o h => by
  unfold ban at h
  by_cases q : Hf a = none ∧ a ∉ ca'
  · rw [if_pos q] at h; exact h
  · rw [if_neg q] at h; cases h
theorem Rel.enter (r : Rel B ca ρ cs Hf σ H) (h : noCel ss = true) (hv : SvsOk ca Hf ss vs) : Rel (ban Hf H []) [] ss [] Hf (vs.map some) H :=
  ⟨r.ext, by simp [hv.len], slots_of (nocel_sv h hv), fun j o e => by simp at e, rfl, List.nodup_nil, fun a m => by simp at m, ban_ex, fun a m => ⟨(ban_of m).1, .inl (ban_of m).2⟩⟩
theorem Rel.leave {ss' : List S} {σ' : L2.St} (r : Rel B ca ρ cs Hf σ H) (e : Ex Hf Hf') (r' : Rel (ban Hf H []) [] ss' [] Hf' σ' H') : Rel B ca ρ cs Hf' σ H' ∧ Nx ca Hf ca Hf' := by
  have kp : ∀ a, Hf a = none → ∀ o, H a = some o → H' a = some o := fun a h o q => r'.exb a o (ban_some h (by simp) q)
  have nf : ∀ a, Hf a = none → H a ≠ none → Hf' a = none := fun a h q => by
    cases z : H a with
    | none => exact absurd z q
    | some o => exact (r'.dis a (by rw [ban_some h (by simp) z]; simp)).1
  have n : Nx ca Hf ca Hf' := ⟨List.prefix_refl _, e⟩
  refine ⟨⟨r'.ext, r.len, fun i s q => ?_, fun j o q => ?_, r.lenc, r.nd, fun a m => nf a (r.off a m) (r.there m), fun a o q => kp a (r.dis a (by rw [q]; simp)).1 o (r.exb a o q), fun a m => ?_⟩, n⟩
  · rcases r.sl i s q with z | ⟨v, h1, h2⟩
    · exact .inl z
    · exact .inr ⟨v, h1, h2.nx n⟩
  · obtain ⟨a, h1, h2⟩ := r.cells j o q
    refine ⟨a, h1, h2.at ?_ e⟩
    have ma := List.mem_of_getElem? h1
    cases z : H a with
    | none => exact absurd z (r.there ma)
    | some u => exact kp a (r.off a ma) u z
  · obtain ⟨h1, h2⟩ := r.dis a m
    refine ⟨nf a h1 ?_, h2⟩
    cases q : B a with
    | none => exact absurd q m
    | some u => rw [r.exb a u q]; simp
theorem RvOk.leave {rv : Rv} {v : V} (r : Rel B ca ρ cs Hf σ H) (h : RvOk (ban Hf H []) [] Hf' H' rv v) (n : ∀ j, rv ≠ .cel j) (hc : rv.ncp = true := by rfl) : RvOk B ca Hf' H' rv v := by
  cases rv with
  | d x => exact h
  | cel j => exact absurd rfl (n j)
  | own o =>
    obtain ⟨a, e, h1, h2, _, h4⟩ := h
    have hb : ∀ o, H a = some o → Hf a = none → False := fun o q z => by rw [ban_some z (by simp) q] at h4; cases h4
    refine ⟨a, e, h1, h2, fun m => ?_, ?_⟩
    · cases z : H a with
      | none => exact r.there m z
      | some u => exact hb u z (r.off a m)
    · cases z : B a with
      | none => rfl
      | some u => exact (hb u (r.exb a u z) (r.dis a (by rw [z]; simp)).1).elim
  | cp j x => cases hc
  | pr x xs =>
    obtain ⟨a', w, a, e, f1, f2, h1, h2, _, h4⟩ := h
    have hb : ∀ o, H a = some o → Hf a = none → False := fun o q z => by rw [ban_some z (by simp) q] at h4; cases h4
    refine ⟨a', w, a, e, f1, f2, h1, h2, fun m => ?_, ?_⟩
    · cases z : H a with
      | none => exact r.there m z
      | some u => exact hb u z (r.off a m)
    · cases z : B a with
      | none => rfl
      | some u => exact (hb u (r.exb a u z) (r.dis a (by rw [z]; simp)).1).elim
theorem Rel.enterC {j : Nat} {o : OC} {a : Addr} {v : V} (r : Rel B ca ρ cs Hf σ H) (h : noCel ss = true) (hv : SvsOk ca Hf ss vs) (hj : cs[j]? = some o) (ha : ca[j]? = some a) (hp : o.pl = true) : Rel (ban Hf H [a]) [a] (.cel 0 :: ss) [o] Hf ((V.ref a :: vs).map some) H := by
  have ma := List.mem_of_getElem? ha
  refine ⟨r.ext, by simp [hv.len], slots_of (.cons ⟨a, rfl, rfl⟩ (nocel_sv h hv)), fun i u e => ?_, rfl, by simp, fun b m => ?_, ban_ex, fun b m => ⟨(ban_of m).1, .inl (ban_of m).2⟩⟩
  · cases i with
    | zero => simp at e; subst e; exact ⟨a, rfl, (r.cell hj ha).of_pl hp⟩
    | succ i => simp at e
  · simp at m; subst m; exact r.off b ma
theorem Rel.leaveC {ss' : List S} {σ' : L2.St} {j : Nat} {o' : OC} {a : Addr} (r : Rel B ca ρ cs Hf σ H) (ha : ca[j]? = some a) (hm : Nf (H a)) (e : Ex Hf Hf') (r' : Rel (ban Hf H [a]) [a] ss' [o'] Hf' σ' H') (hp : o'.pl = true) : Rel B ca ρ (cs.set j o') Hf' σ H' ∧ Nx ca Hf ca Hf' := by
  have kp : ∀ b, Hf b = none → b ≠ a → ∀ o, H b = some o → H' b = some o := fun b h hn o q => r'.exb b o (ban_some h (by simp [hn]) q)
  have nf : ∀ b, Hf b = none → b ≠ a → H b ≠ none → Hf' b = none := fun b h hn q => by
    cases z : H b with
    | none => exact absurd z q
    | some o => exact (r'.dis b (by rw [ban_some h (by simp [hn]) z]; simp)).1
  have ma := List.mem_of_getElem? ha
  have n : Nx ca Hf ca Hf' := ⟨List.prefix_refl _, e⟩
  refine ⟨⟨r'.ext, r.len, fun i s q => ?_, fun i o q => ?_, by simp [r.lenc], r.nd, fun b m => ?_, fun b o q => ?_, fun b m => ?_⟩, n⟩
  · rcases r.sl i s q with z | ⟨v, h1, h2⟩
    · exact .inl z
    · exact .inr ⟨v, h1, h2.nx n⟩
  · by_cases hi : j = i
    · subst hi
      have hjl : j < cs.length := by rw [← r.lenc]; exact (List.getElem?_eq_some_iff.mp ha).1
      rw [List.getElem?_set_self hjl] at q
      cases q
      obtain ⟨b, g1, g2⟩ := r'.cells 0 o' rfl
      have : a = b := by simpa using g1
      subst this
      exact ⟨a, ha, g2.of_pl hp⟩
    · rw [List.getElem?_set_ne hi] at q
      obtain ⟨b, h1, h2⟩ := r.cells i o q
      have hne : b ≠ a := fun z => by subst z; exact hi (nd_ix r.nd ha h1)
      have mb := List.mem_of_getElem? h1
      refine ⟨b, h1, h2.at ?_ e⟩
      cases z : H b with
      | none => exact absurd z (r.there mb)
      | some u => exact kp b (r.off b mb) hne u z
  · by_cases hb : b = a
    · subst hb; exact r'.off b (by simp)
    · exact nf b (r.off b m) hb (r.there m)
  · have hd := r.dis b (by rw [q]; simp)
    exact kp b hd.1 (fun z => by subst z; rw [r.bn ma hm] at q; cases q) o (r.exb b o q)
  · obtain ⟨h1, h2⟩ := r.dis b m
    refine ⟨nf b h1 (fun z => by subst z; exact m (r.bn ma hm)) ?_, h2⟩
    cases q : B b with
    | none => exact absurd q m
    | some u => rw [r.exb b u q]; simp
theorem RvOk.leaveC {rv : Rv} {v : V} {a : Addr} {j : Nat} (r : Rel B ca ρ cs Hf σ H) (ha : ca[j]? = some a) (h : RvOk (ban Hf H [a]) [a] Hf' H' rv v) (n : ∀ i, rv ≠ .cel i) (hc : rv.ncp = true := by rfl) : RvOk B ca Hf' H' rv v := by
  cases rv with
  | d x => exact h
  | cel i => exact absurd rfl (n i)
  | own o =>
    obtain ⟨b, e, h1, h2, h3, h4⟩ := h
    have hne : b ≠ a := fun z => h3 (by simp [z])
    have hb : ∀ o, H b = some o → Hf b = none → False := fun o q z => by rw [ban_some z (by simp [hne]) q] at h4; cases h4
    refine ⟨b, e, h1, h2, fun m => ?_, ?_⟩
    · cases z : H b with
      | none => exact r.there m z
      | some u => exact hb u z (r.off b m)
    · cases z : B b with
      | none => rfl
      | some u => exact (hb u (r.exb b u z) (r.dis b (by rw [z]; simp)).1).elim
  | cp j x => cases hc
  | pr x xs =>
    obtain ⟨a', w, b, e, f1, f2, h1, h2, h3, h4⟩ := h
    have hne : b ≠ a := fun z => h3 (by simp [z])
    have hb : ∀ o, H b = some o → Hf b = none → False := fun o q z => by rw [ban_some z (by simp [hne]) q] at h4; cases h4
    refine ⟨a', w, b, e, f1, f2, h1, h2, fun m => ?_, ?_⟩
    · cases z : H b with
      | none => exact r.there m z
      | some u => exact hb u z (r.off b m)
    · cases z : B b with
      | none => rfl
      | some u => exact (hb u (r.exb b u z) (r.dis b (by rw [z]; simp)).1).elim
end
section
variable {X : Cx} {W : WX} {k : Nat} {f : Addr} {fd : FuncData} {ps : List Str} {F : List S → M Rv} {x : Str} {p pos : Pos} {e : Expr} {es : List Expr} {g : List S → M (List S)}
theorem callP_run {n : Nat} {B : Hp} {ca : List Addr} {ρ : List S} {cs : Store} {Hf : Hp} {σ : L2.St} {H : Hp} {Q : VK} {ss : List S} {vs : List V} (r : Rel B ca ρ cs Hf σ H) (hn : vs.length = n) (hv : SvsOk ca Hf ss vs)
    (h : Gs X W B ca Hf ρ σ (callP F ss cs) (fun ca' Hf' H' _ rv => ∀ v, RvOk B ca' Hf' H' rv v → Q v H')) : spE X.mg n F vs H Q (WE W σ) := by
  unfold callP at h
  by_cases hc : noCel ss = true
  · rw [if_pos hc] at h
    refine ⟨hn, _, [], [], Hf, ss, r.enter hc hv, ?_⟩
    cases q : F ss [] with
    | no => rw [q] at h; exact h.elim
    | er c cs1 =>
      rw [q] at h
      intro Hf' H' cls ex r' hm
      cases cs1 with
      | nil =>
        obtain ⟨r2, n2⟩ := r.leave ex r'
        exact h ca Hf' H' cls n2 r2 hm
      | cons _ _ => exact absurd r'.lenc (by simp)
    | ok rv cs1 =>
      rw [q] at h
      intro Hf' H' v ex r' hr
      have e1 : cs1 = [] := by
        have := r'.lenc
        exact List.length_eq_zero_iff.mp (by simpa using this.symm)
      subst e1
      obtain ⟨r2, n2⟩ := r.leave ex r'
      cases rv with
      | d y => exact h ca Hf' H' n2 r2 v (RvOk.leave r hr fun j z => nomatch z)
      | own o => exact h ca Hf' H' n2 r2 v (RvOk.leave r hr fun j z => nomatch z)
      | cel j => exact h.elim
      | pr x xs => exact h.elim
      | cp j x => exact h.elim
  · rw [if_neg hc] at h; exact h.elim
theorem do_call (Fk : FnOk X.prog X.w X.K X.mg X.base (L2.CX X.prog X.w) k f fd ps (spE X.mg ps.length F)) (hr : Room k X.A) (tk : Takes X W) (hm : X.mg x = some (.ref f)) (hk : PySem.W.keepIn X.K (.ref f) = true) (hb : Binds X.K fd ps [])
    (ha : DA X W (e :: es) g) (hl : (e :: es).length = ps.length := by rfl) (hg : Gl X x := by rfl) (hdb : (x == ("__debug__" : Str)) = false := by decide) (he : starEach (e :: es) X.env = (false, eval e X.env) :: starEach es X.env := by rfl) (hpl : (backTo pos (starEach es X.env)).any (·.1) = false := by rfl)
    (hlen : ∀ ρ cs ss cs', g ρ cs = .ok ss cs' → ss.length = ps.length) : DO X W (.Call (.Name x p) (e :: es) [] pos) (eCall F g) := by
  obtain ⟨t, pt, kt⟩ := ha
  refine ⟨_, pe_callS (E := WE W) Fk hr hg hm hk hb (passAt tk) pt hdb he hpl, fun B ca ρ cs Hf σ H Q r h => ?_⟩
  have h' := h
  cases q : g ρ cs with
  | ok ss cs1 =>
    refine kt B ca ρ cs Hf σ H _ r ?_
    have hss := hlen ρ cs ss cs1 q
    rw [q]
    intro ca1 Hf1 H1 n1 r1 vs hvs
    have h1 : Gs X W B ca1 Hf1 ρ σ (callP F ss cs1) (fun ca' Hf' H' _ rv => ∀ v, RvOk B ca' Hf' H' rv v → Q v H') := by
      have e1 : eCall F g ρ cs = callP F ss cs1 := bnd_ok q
      rw [← e1]; exact h.fwd n1
    exact callP_run r1 (by rw [← hvs.len]; exact hss) hvs h1
  | er c cs1 =>
    refine kt B ca ρ cs Hf σ H _ r ?_
    rw [q]
    have e1 : eCall F g ρ cs = .er c cs1 := by unfold eCall bnd; rw [q]
    rw [e1] at h
    exact h
  | no =>
    have e1 : eCall F g ρ cs = .no := by unfold eCall bnd; rw [q]
    rw [e1] at h
    exact h.elim
theorem callC_run {n : Nat} {B : Hp} {ca : List Addr} {ρ : List S} {cs : Store} {Hf : Hp} {σ : L2.St} {H : Hp} {Q : VK} {ss : List S} {vs : List V} (r : Rel B ca ρ cs Hf σ H) (hn : vs.length = n) (hv : SvsOk ca Hf ss vs)
    (h : Gs X W B ca Hf ρ σ (callC F ss cs) (fun ca' Hf' H' _ rv => ∀ v, RvOk B ca' Hf' H' rv v → Q v H')) : spE X.mg n F vs H Q (WE W σ) := by
  cases hv with
  | nil => exact h.elim
  | cons hs ht =>
    rename_i s ss v vs
    cases s with
    | cel j =>
      obtain ⟨a, ha, rfl⟩ := hs
      have h0 : Gs X W B ca Hf ρ σ (if noCel ss = true then (match cs[j]? with
        | some o => if o.pl = true then (match F (.cel 0 :: ss) [o] with
          | .ok (.d x) [o'] => if o'.pl = true then .ok (.d x) (cs.set j o') else .no
          | .ok (.own u) [o'] => if o'.pl = true then .ok (.own u) (cs.set j o') else .no
          | .ok (.cel 0) [o'] => if o'.pl = true then .ok (.cel j) (cs.set j o') else .no
          | .er c [o'] => if o'.pl = true then .er c (cs.set j o') else .no
          | _ => .no) else .no
        | none => .no) else .no) (fun ca' Hf' H' _ rv => ∀ v, RvOk B ca' Hf' H' rv v → Q v H') := h
      by_cases hc : noCel ss = true
      · rw [if_pos hc] at h0
        cases qj : cs[j]? with
        | none => rw [qj] at h0; exact h0.elim
        | some o =>
          rw [qj] at h0
          by_cases hp : o.pl = true
          · simp only [if_pos hp] at h0
            refine ⟨hn, _, [a], [o], Hf, _, r.enterC (v := .ref a) hc ht qj ha hp, ?_⟩
            cases q : F (.cel 0 :: ss) [o] with
            | no => rw [q] at h0; exact h0.elim
            | er c cs1 =>
              rw [q] at h0
              intro Hf' H' cls ex r' hm
              have hl := r'.lenc
              match cs1, hl with
              | [o'], _ =>
                by_cases hp' : o'.pl = true
                · simp only [if_pos hp'] at h0
                  obtain ⟨r2, n2⟩ := r.leaveC ha ((r.cell qj ha).nf hp) ex r' hp'
                  exact h0 ca Hf' H' cls n2 r2 hm
                · simp only [if_neg hp'] at h0 <;> exact h0.elim
            | ok rv cs1 =>
              rw [q] at h0
              intro Hf' H' v ex r' hr
              have hl := r'.lenc
              match cs1, hl with
              | [o'], _ =>
                by_cases hp' : o'.pl = true
                · obtain ⟨r2, n2⟩ := r.leaveC ha ((r.cell qj ha).nf hp) ex r' hp'
                  cases rv with
                  | d y =>
                    simp only [if_pos hp'] at h0
                    exact h0 ca Hf' H' n2 r2 v (RvOk.leaveC r ha hr fun j z => nomatch z)
                  | own u =>
                    simp only [if_pos hp'] at h0
                    exact h0 ca Hf' H' n2 r2 v (RvOk.leaveC r ha hr fun j z => nomatch z)
                  | pr x xs => exact h0.elim
                  | cp i x => exact h0.elim
                  | cel i =>
                    cases i with
                    | zero =>
                      simp only [if_pos hp'] at h0
                      obtain ⟨b, g1, rfl⟩ := hr
                      have : a = b := by simpa using g1
                      subst this
                      exact h0 ca Hf' H' n2 r2 _ ⟨a, ha, rfl⟩
                    | succ i => exact h0.elim
                · cases rv with
                  | d y => simp only [if_neg hp'] at h0 <;> exact h0.elim
                  | own u => simp only [if_neg hp'] at h0 <;> exact h0.elim
                  | pr x xs => exact h0.elim
                  | cp i x => exact h0.elim
                  | cel i =>
                    cases i with
                    | zero => simp only [if_neg hp'] at h0 <;> exact h0.elim
                    | succ i => exact h0.elim
          · simp only [if_neg hp] at h0 <;> exact h0.elim
      · rw [if_neg hc] at h0; exact h0.elim
    | _ => exact h.elim
theorem do_callC (Fk : FnOk X.prog X.w X.K X.mg X.base (L2.CX X.prog X.w) k f fd ps (spE X.mg ps.length F)) (hr : Room k X.A) (tk : Takes X W) (hm : X.mg x = some (.ref f)) (hk : PySem.W.keepIn X.K (.ref f) = true) (hb : Binds X.K fd ps [])
    (ha : DA X W (e :: es) g) (hl : (e :: es).length = ps.length := by rfl) (hg : Gl X x := by rfl) (hdb : (x == ("__debug__" : Str)) = false := by decide) (he : starEach (e :: es) X.env = (false, eval e X.env) :: starEach es X.env := by rfl) (hpl : (backTo pos (starEach es X.env)).any (·.1) = false := by rfl)
    (hlen : ∀ ρ cs ss cs', g ρ cs = .ok ss cs' → ss.length = ps.length) : DO X W (.Call (.Name x p) (e :: es) [] pos) (eCallC F g) := by
  obtain ⟨t, pt, kt⟩ := ha
  refine ⟨_, pe_callS (E := WE W) Fk hr hg hm hk hb (passAt tk) pt hdb he hpl, fun B ca ρ cs Hf σ H Q r h => ?_⟩
  cases q : g ρ cs with
  | ok ss cs1 =>
    refine kt B ca ρ cs Hf σ H _ r ?_
    have hss := hlen ρ cs ss cs1 q
    rw [q]
    intro ca1 Hf1 H1 n1 r1 vs hvs
    have h1 : Gs X W B ca1 Hf1 ρ σ (callC F ss cs1) (fun ca' Hf' H' _ rv => ∀ v, RvOk B ca' Hf' H' rv v → Q v H') := by
      have e1 : eCallC F g ρ cs = callC F ss cs1 := bnd_ok q
      rw [← e1]; exact h.fwd n1
    exact callC_run r1 (by rw [← hvs.len]; exact hss) hvs h1
  | er c cs1 =>
    refine kt B ca ρ cs Hf σ H _ r ?_
    rw [q]
    have e1 : eCallC F g ρ cs = .er c cs1 := by unfold eCallC bnd; rw [q]
    rw [e1] at h
    exact h
  | no =>
    have e1 : eCallC F g ρ cs = .no := by unfold eCallC bnd; rw [q]
    rw [e1] at h
    exact h.elim
theorem alen0 : ∀ ρ cs ss cs', aNil ρ cs = .ok ss cs' → ss.length = 0 := fun ρ cs ss cs' h => by
  have h' : (Res.ok [] cs : Res (List S)) = .ok ss cs' := h
  cases h'; rfl
theorem alenS {fa : List S → M S} {n : Nat} (hl : ∀ ρ cs ss cs', g ρ cs = .ok ss cs' → ss.length = n) : ∀ ρ cs ss cs', aCons fa g ρ cs = .ok ss cs' → ss.length = n + 1 := fun ρ cs ss cs' h => by
  unfold aCons bnd at h
  cases q : fa ρ cs with
  | ok a c1 =>
    rw [q] at h
    dsimp only at h
    cases q2 : g ρ c1 with
    | ok as c2 =>
      rw [q2] at h
      have h' : (Res.ok (a :: as) c2 : Res (List S)) = .ok ss cs' := h
      cases h'
      exact congrArg Nat.succ (hl ρ c1 as _ q2)
    | er c c2 => rw [q2] at h; cases h
    | no => rw [q2] at h; cases h
  | er c c2 => rw [q] at h; cases h
  | no => rw [q] at h; cases h
end
end Dn

set_option Elab.async false
set_option linter.all false
set_option maxRecDepth 100000
set_option maxHeartbeats 1000000
namespace Dn
open PySem L2
/-- the def named x does what F says, by at most k levels -/
def Okf (P : Program) (w : World) (K : PySem.W.Frag) (mg : Str → Option Value) (base : Heap) (k : Nat) (x : Str) (ps : List Str) (F : List S → M Rv) : Prop :=
  ∃ f fd, mg x = some (.ref f) ∧ f = He.ga K x ∧ FnOk P w K mg base (L2.CX P w) k f fd ps (spE mg ps.length F) ∧ Binds K fd ps [] ∧ PySem.W.keepIn K (.ref f) = true
section
variable {P : Program} {w : World} {K : PySem.W.Frag} {mg : Str → Option Value} {base : Heap} {j k : Nat} {x : Str} {ps N : List Str} {F : List S → M Rv} {st : Stmt}
theorem Okf.mono (h : Okf P w K mg base j x ps F) (hk : j ≤ k) : Okf P w K mg base k x ps F := by
  obtain ⟨f, fd, h1, h0, h2, h3, h4⟩ := h
  exact ⟨f, fd, h1, h0, h2.mono hk, h3, h4⟩
/-- how a def of the text stands -/
structure Dfn (K : PySem.W.Frag) (mg : Str → Option Value) (x : Str) (st : Stmt) (ps : List Str) : Prop where
  g : mg x = some (.ref (He.ga K x))
  d : ∃ fd, FunD K x x (defArgs st) (defBody st) (defScope st) [] [] (He.ga K x) fd ∧ Binds K fd ps []
theorem Dfn.ok (T : Dfn K mg x st ps) (sc : FnScope N ps (defScope st)) (m : Nat) (hm : N.length = ps.length + m) {g : G}
    (hbody : ∀ (cdv : Value) (A : Around) (outer : List Env) (s : Shared) (H : Hp) (E : XK), Room k (A.deeper (PyProof.Rows.envOfC x (defScope st) s.heap.objs.size (He.ga K x) cdv)) → Takes (BX P w K mg base N x (defScope st) (He.ga K x) cdv A outer s H E) (BW E) →
      PassesOwn (model P w) (BX P w K mg base N x (defScope st) (He.ga K x) cdv A outer s H E).A (BX P w K mg base N x (defScope st) (He.ga K x) cdv A outer s H E).env (BX P w K mg base N x (defScope st) (He.ga K x) cdv A outer s H E).xe → DSs (BX P w K mg base N x (defScope st) (He.ga K x) cdv A outer s H E) (BW E) (defBody st) g) :
    Okf P w K mg base (k + 1) x ps (runG m g) := by
  obtain ⟨h1, fd, h2, h3⟩ := T
  exact ⟨He.ga K x, fd, h1, rfl, def_ok h2 sc m hm hbody, h3, h2.kp⟩
def F0 : List S → M Rv := fun _ _ => .no
theorem Dfn.ok0 (T : Dfn K mg x st ps) : Okf P w K mg base k x ps F0 := by
  obtain ⟨h1, fd, h2, h3⟩ := T
  refine ⟨He.ga K x, fd, h1, rfl, ⟨fun vs H Q E h => h.1, fun A outer s H args us vs Q E hr e0 hb hv hs => ?_⟩, h3, h2.kp⟩
  obtain ⟨_, _, _, _, _, _, _, z⟩ := hs
  exact z.elim
end
section
variable {X : Cx} {W : WX} {k : Nat} {x : Str} {ps : List Str} {F : List S → M Rv} {p pos : Pos} {e : Expr} {es : List Expr} {g : List S → M (List S)}
theorem do_f (h : Okf X.prog X.w X.K X.mg X.base k x ps F) (hr : Room k X.A) (tk : Takes X W)
    (ha : DA X W (e :: es) g) (hlen : ∀ ρ cs ss cs', g ρ cs = .ok ss cs' → ss.length = ps.length) (hl : (e :: es).length = ps.length := by rfl) (hg : Gl X x := by rfl) (hdb : (x == ("__debug__" : Str)) = false := by decide) (he : starEach (e :: es) X.env = (false, eval e X.env) :: starEach es X.env := by rfl) (hpl : (backTo pos (starEach es X.env)).any (·.1) = false := by rfl)
    : DO X W (.Call (.Name x p) (e :: es) [] pos) (eCall F g) := by
  obtain ⟨f, fd, h1, _, h2, h3, h4⟩ := h
  exact do_call h2 hr tk h1 h4 h3 ha hl hg hdb he hpl hlen
theorem do_fC (h : Okf X.prog X.w X.K X.mg X.base k x ps F) (hr : Room k X.A) (tk : Takes X W)
    (ha : DA X W (e :: es) g) (hlen : ∀ ρ cs ss cs', g ρ cs = .ok ss cs' → ss.length = ps.length) (hl : (e :: es).length = ps.length := by rfl) (hg : Gl X x := by rfl) (hdb : (x == ("__debug__" : Str)) = false := by decide) (he : starEach (e :: es) X.env = (false, eval e X.env) :: starEach es X.env := by rfl) (hpl : (backTo pos (starEach es X.env)).any (·.1) = false := by rfl)
    : DO X W (.Call (.Name x p) (e :: es) [] pos) (eCallC F g) := by
  obtain ⟨f, fd, h1, _, h2, h3, h4⟩ := h
  exact do_callC h2 hr tk h1 h4 h3 ha hl hg hdb he hpl hlen
end
end Dn

namespace Dn
open PySem L2 He
section
variable {fa : List Fa} {fn : List DefD} {K : PySem.W.Frag} {mg : Str → Option Value} {h : Heap}
theorem dfn_of (X : K.In h) (G : h.Ns mainGlobals mg) (c : SaysD fa fn K) {x : Str} {st : Stmt} {ps : List Str} (i j : Nat) (hi : fn[i]? = some (dfd x st)) (hj : fa[j]? = some (.glo x))
    (hb : ∀ (kV doc pm : Value) (an : Option Addr) (cdv ct : Value) (us : List Value), us.length = ps.length → bindArgs (PySem.W.fnOf x x (defArgs st) (defBody st) (defScope st) .none kV doc pm an cdv ct) ⟨us, []⟩ = pure (ps.zip us)) : Dfn K mg x st ps := by
  obtain ⟨fd, F⟩ := c.def_ i hi
  exact ⟨glo_ok X G (c.fact j hj), fd, F, FunD.bindsN F hb⟩
end
end Dn

set_option Elab.async false
set_option linter.all false
set_option maxRecDepth 100000
set_option maxHeartbeats 1000000
namespace Dn
open PySem L2
theorem bt_len : bootBuiltins "len" = some (.builtin "len") := by decide +kernel
theorem bt_min : bootBuiltins "min" = some (.builtin "min") := by decide +kernel
theorem bt_max : bootBuiltins "max" = some (.builtin "max") := by decide +kernel
theorem bt_sum : bootBuiltins "sum" = some (.builtin "sum") := by decide +kernel
theorem bt_sorted : bootBuiltins "sorted" = some (.builtin "sorted") := by decide +kernel
theorem bt_int : bootBuiltins "int" = some (.type "int") := by decide +kernel
theorem bt_bool : bootBuiltins "bool" = some (.type "bool") := by decide +kernel
theorem bt_str : bootBuiltins "str" = some (.type "str") := by decide +kernel
theorem bt_list : bootBuiltins "list" = some (.type "list") := by decide +kernel
theorem bt_tuple : bootBuiltins "tuple" = some (.type "tuple") := by decide +kernel
theorem hu65 {k : Nat} {A : Around} (r : Room k A) : A.units + 65 < cLine := by have := r.un; omega
def negD : D → Option D
  | .int i => some (.int (-i))
  | _ => none
def eNeg (fa : List S → M S) (ρ : List S) : M S := bnd (op1 negD fa ρ) fun d => ret (.d d)
/-- an exception class of the text -/
structure Exf (K : PySem.W.Frag) (mg : Str → Option Value) (x : Str) : Prop where
  g : mg x = some (.ref (He.ga K x))
  e : PySem.W.excIn K (He.ga K x) He.veBase "ValueError.__new__" = true ∧ PySem.W.keepIn K (.ref (He.ga K x)) = true ∧ PySem.W.subIn K (.ref (He.ga K x)) (.type "BaseException") = some true ∧ PySem.W.typeIn K (.ref (He.ga K x)) = some (.type "type")
section
variable {X : Cx} {W : WX} {a : Expr} {fa : List S → M S} {pos : Pos}
theorem de_neg (ha : DE X W a fa) : DE X W (.UnaryOp .USub a pos) (eNeg fa) := by
  obtain ⟨ta, pa, ka⟩ := ha
  refine ⟨_, pe_un un_neg pa, fun B ca ρ cs Hf σ H Q r h => ?_⟩
  refine op1_run ka r h fun ca2 Hf2 H2 cs2 x da z n2 r2 hx hz h2 => ?_
  unfold negD at hz
  split at hz
  · cases hz
    have := hx.int_; subst this
    exact ⟨_, rfl, h2.ret_ r2 _ (.int _)⟩
  · cases hz
theorem de_gI {x : Str} {i : Int} (hm : ∃ t, X.mg x = some (.int i t)) (hg : Gl X x := by rfl) (hd : (x == ("__debug__" : Str)) = false := by decide) : DE X W (.Name x pos) (eC (.int i)) :=
  let ⟨_, h⟩ := hm; de_globI h hg hd
theorem dst_rs {x m : Str} {j : Nat} {p p2 p3 : Pos} (h : Exf X.K X.mg x) (tk : Takes X W) (hc : X.calm = true := by rfl) (hg : Gl X x := by rfl) (hdb : (x == ("__debug__" : Str)) = false := by decide) : DSt X W (.Raise (some (.Call (.Name x p) [.Constant (.str m) j p2] [] p3)) none pos) (sErr x) :=
  dst_raise tk PySem.F.excBase_ValueError h.e.1 h.g h.e.2.1 (raises_own h.e.2.2.1 h.e.2.2.2) hc hg hdb
end
theorem exf_of {fa : List He.Fa} {fn : List He.DefD} {K : PySem.W.Frag} {mg : Str → Option Value} {h : Heap} (X : K.In h) (G : h.Ns mainGlobals mg) (c : He.SaysD fa fn K) {x : Str} (i j : Nat) (hi : fa[i]? = some (.glo x)) (hj : fa[j]? = some (.exc x)) : Exf K mg x :=
  ⟨He.glo_ok X G (c.fact i hi), He.exc_ok (c.fact j hj)⟩
end Dn

set_option Elab.async false
set_option linter.all false
set_option maxRecDepth 100000
set_option maxHeartbeats 1000000
namespace Dn
open PySem L2
def Wf : WX := fun _ _ _ _ => False
def noEr {α : Type} (m : M α) : M α := fun cs => match m cs with
  | .er _ _ => .no
  | o => o
def wipeS (ρ : List S) : List Nat → List S
  | [] => ρ
  | v :: vs => (wipeS ρ vs).set v .no
def lcL (tg : D → List S → Option (List S)) (t : List S → M Bool) (f : List S → M S) (ρ : List S) : List D → List D → M Rv
  | [], acc => ret (.own (.lst acc))
  | x :: xs, acc => match tg x ρ with
    | none => stuck
    | some ρ1 => bnd (noEr (t ρ1)) fun b => if b = true then bnd (noEr (f ρ1)) fun y => (match y with
        | .d d => if acc.length < sizeLine then lcL tg t f ρ xs (acc ++ [d]) else stuck
        | _ => stuck)
      else lcL tg t f ρ xs acc
def eLc (it : List S → M (List D)) (tg : D → List S → Option (List S)) (t : List S → M Bool) (f : List S → M S) (vs : List Nat) (ρ : List S) : M Rv :=
  bnd (it ρ) fun xs => lcL tg t f (wipeS ρ vs) xs []
def tYesM (_ : List S) : M Bool := ret true
/-- a block's target -/
def DGb (X : Cx) (vs : List Nat) (tg : Expr) (g : D → List S → Option (List S)) : Prop := ∃ t : TG, PG X tg t ∧ ∀ (B : Hp) (ca : List Addr) (ρ ρ' : List S) (cs : Store) (Hf : Hp) (σ : L2.St) (H : Hp) (v : V) (d : D) (Q : L2.St → Hp → Prop), Rel B ca ρ cs Hf σ H → Dd Hf v d → g d ρ = some ρ' →
  (∀ σ', wipe σ' vs = wipe σ vs → Rel B ca ρ' cs Hf σ' H → Q σ' H) → t v σ H Q
def DTs (X : Cx) (W : WX) (ifs : List Expr) (f : List S → M Bool) : Prop := ∃ t : TT, PTs X ifs t ∧ ∀ (B : Hp) (ca : List Addr) (ρ : List S) (cs : Store) (Hf : Hp) (σ : L2.St) (H : Hp) (Q : Bool → Hp → Prop), Rel B ca ρ cs Hf σ H →
  Gs X W B ca Hf ρ σ (f ρ cs) (fun _ _ H' _ b => Q b H') → t σ H Q
section
variable {X : Cx} {W : WX} {pos : Pos} {vs : List Nat}
theorem wipe_set {σ : St} {i : Nat} {x : Option V} : ∀ {vs : List Nat}, i ∈ vs → wipe (σ.set i x) vs = wipe σ vs
  | v :: vs, h => by
    show (wipe (σ.set i x) vs).set v none = (wipe σ vs).set v none
    by_cases hv : i ∈ vs
    · rw [wipe_set hv]
    · have e : i = v := by
        rcases List.mem_cons.1 h with h | h
        · exact h
        · exact absurd h hv
      subst e
      have : ∀ {vs : List Nat}, i ∉ vs → wipe (σ.set i x) vs = (wipe σ vs).set i x := by
        intro vs hv
        induction vs with
        | nil => rfl
        | cons v vs ih =>
          simp only [List.mem_cons, not_or] at hv
          show (wipe (σ.set i x) vs).set v none = ((wipe σ vs).set v none).set i x
          rw [ih hv.2, List.set_comm _ _ hv.1]
      rw [this hv, List.set_set]
theorem wipe_wipe (σ : St) : ∀ (vs us : List Nat), (∀ i ∈ us, i ∈ vs) → wipe (wipe σ us) vs = wipe σ vs
  | vs, [], _ => rfl
  | vs, u :: us, h => by
    show wipe ((wipe σ us).set u none) vs = wipe σ vs
    rw [wipe_set (h u (by simp)), wipe_wipe σ vs us fun i hi => h i (by simp [hi])]
theorem Rel.wipe {B : Hp} {ca : List Addr} {ρ : List S} {cs : Store} {Hf : Hp} {σ : L2.St} {H : Hp} (r : Rel B ca ρ cs Hf σ H) : ∀ vs : List Nat, Rel B ca (wipeS ρ vs) cs Hf (wipe σ vs) H
  | [] => r
  | v :: vs => (Rel.wipe r vs).lose v none
theorem dgb_name (i : Nat) {x : Str} (hN : X.N.Nodup) (hv : i ∈ vs := by decide) (hi : X.N[i]? = some x := by rfl) (hx : Loc X.env.scope x := by first | exact Or.inl rfl | exact Or.inr rfl)
    (hf : X.fn x = true ∨ X.env.scope.names.lookup x = some .local := by first | exact .inl rfl | exact .inr rfl) : DGb X vs (.Name x pos) (gtN i) := by
  refine ⟨_, pg_name hN hi hx hf, fun B ca ρ ρ' cs Hf σ H v d Q r hd e q => ?_⟩
  cases e
  exact q _ (wipe_set hv) (r.set i hd)
theorem dts_nil : DTs X W [] tYesM := ⟨_, pts_nil, fun B ca ρ cs Hf σ H Q r h => h.ret_ r⟩
theorem dts_one {c : Expr} {t : List S → M Bool} (h : DT X W c t) : DTs X W [c] t := let ⟨t, p, k⟩ := h; ⟨t, pts_one p, k⟩
theorem Gs.noEr_ {α : Type} {B : Hp} {ca : List Addr} {Hf : Hp} {ρ : List S} {σ : L2.St} {m : M α} {cs : Store} {β : Type} {k : α → M β} {P' : List Addr → Hp → Hp → Store → β → Prop} (h : Gs X W B ca Hf ρ σ (bnd (noEr m) k cs) P') :
    (∀ a cs', m cs = .ok a cs' → Gs X W B ca Hf ρ σ (k a cs') P') ∧ m cs ≠ .no ∧ ∀ c cs', m cs ≠ .er c cs' := by
  unfold bnd noEr at h
  cases e : m cs with
  | ok a cs' =>
    rw [e] at h
    refine ⟨fun a' cs'' e' => ?_, by simp, by simp⟩
    cases e'
    exact h
  | er c cs' => rw [e] at h; exact h.elim
  | no => rw [e] at h; exact h.elim
end
/-- banned things left out -/
theorem Rel.less {B B' : Hp} {ca : List Addr} {ρ : List S} {cs : Store} {Hf : Hp} {σ : L2.St} {H : Hp} (r : Rel B' ca ρ cs Hf σ H) (h : Ex B B') : Rel B ca ρ cs Hf σ H :=
  ⟨r.ext, r.len, r.sl, r.cells, r.lenc, r.nd, r.off, fun a o e => r.exb a o (h a o e), fun a e => by
    cases q : B a with
    | none => exact absurd q e
    | some o =>
      have z := r.dis a (by rw [h a o q]; simp)
      rw [h a o q] at z
      exact z⟩
section
variable {X : Cx} {W : WX} {pos : Pos} {elt tg iter : Expr} {ifs : List Expr} {scope : Scope} {own : List (Str × Nat)} {it : List S → M (List D)} {g : D → List S → Option (List S)} {t : List S → M Bool} {f : List S → M S}
def tgOf (g : D → List S → Option (List S)) (vs : List Nat) : TG := fun v σ H Q => ∃ (B : Hp) (ca : List Addr) (ρ ρ' : List S) (cs : Store) (Hf : Hp) (d : D), Rel B ca ρ cs Hf σ H ∧ Dd Hf v d ∧ g d ρ = some ρ' ∧ ∀ σ', wipe σ' vs = wipe σ vs → Rel B ca ρ' cs Hf σ' H → Q σ' H
def ttOf (X : Cx) (t : List S → M Bool) : TT := fun σ H Q => ∃ (B : Hp) (ca : List Addr) (ρ : List S) (cs : Store) (Hf : Hp), Rel B ca ρ cs Hf σ H ∧ Gs X Wf B ca Hf ρ σ (t ρ cs) (fun _ _ H' _ b => Q b H')
def teOf (X : Cx) (f : List S → M S) : TE := fun σ H Q => ∃ (B : Hp) (ca : List Addr) (ρ : List S) (cs : Store) (Hf : Hp), Rel B ca ρ cs Hf σ H ∧ Gs X Wf B ca Hf ρ σ (f ρ cs) (fun ca' Hf' H' _ s => ∀ v, SvOk ca' Hf' s v → Q v H')
/-- what a comprehension's loop asks -/
theorem lc_run {wi : TI} {vs : List Nat} (ki : ∀ (B : Hp) (ca : List Addr) (ρ : List S) (cs : Store) (Hf : Hp) (σ : L2.St) (H : Hp) (R : It → Hp → Prop), Rel B ca ρ cs Hf σ H →
    Gs X W B ca Hf ρ σ (it ρ cs) (fun ca' Hf' H' cs' xs => ∀ J, (∀ B2 ca2 ρ2 cs2 Hf2 σ2 H2 (i : Nat), Nx ca' Hf' ca2 Hf2 → Rel B2 ca2 ρ2 cs2 Hf2 σ2 H2 → i ≤ xs.length →
      (i = xs.length → J.stop i H2) ∧ (i < xs.length → J.go i H2 ∧ ∀ x H3, J.yld i H2 x H3 → ∃ Hf3, Nx ca2 Hf2 ca2 Hf3 ∧ Rel B2 ca2 ρ2 cs2 Hf3 σ2 H3 ∧ ∃ d, xs[i]? = some d ∧ Dd Hf3 x d)) → R J H') → wi σ H R)
    {B : Hp} {ca : List Addr} {ρ : List S} {cs : Store} {Hf : Hp} {σ : L2.St} {H : Hp} {Q : VK} (r : Rel B ca ρ cs Hf σ H) (h : Gs X W B ca Hf ρ σ (eLc it g t f vs ρ cs) (fun ca' Hf' H' _ rv => ∀ v, RvOk B ca' Hf' H' rv v → Q v H')) :
    tLc wi (tgOf g vs) (ttOf X t) (teOf X f) vs σ H Q := by
  refine ki B ca ρ cs Hf σ H _ r (h.bind.mono fun ca1 Hf1 H1 cs1 xs n1 r1 h1 J hJ => fun D hD => ?_)
  obtain ⟨d1, d2, d3⟩ := r1.newIn hD
  have exn : ∀ vs, Ex B (upd B D (.lst vs)) := fun vs => ex_new d3
  refine ⟨fun i m H2 => m = xs.length - i ∧ i ≤ xs.length ∧ ∃ ca2 cs2 Hf2 acc accV, Nx ca1 Hf1 ca2 Hf2 ∧ Dds Hf2 accV acc ∧ Rel (upd B D (.lst accV)) ca2 ρ cs2 Hf2 σ H2 ∧ Gs X W B ca2 Hf2 ρ σ (lcL g t f (wipeS ρ vs) (xs.drop i) acc cs2) (fun ca' Hf' H' _ rv => ∀ v, RvOk B ca' Hf' H' rv v → Q v H'),
    ⟨xs.length, by simp, Nat.zero_le _, ca1, cs1, Hf1, [], [], Nx.refl, .nil, ?_, h1⟩, ?_⟩
  · have r2 := r1.grow (ex_new (o := .lst []) hD)
    refine ⟨r2.ext, r2.len, r2.sl, r2.cells, r2.lenc, r2.nd, r2.off, fun a o e => ?_, fun a e => ?_⟩
    · by_cases q : a = D
      · subst q; rw [upd_same] at e ⊢; exact e
      · rw [upd_ne q] at e ⊢; exact r1.exb a o e
    · by_cases q : a = D
      · subst q; exact ⟨d1, .inl d2⟩
      · rw [upd_ne q] at e ⊢; exact r1.dis a e
  rintro i m H2 ⟨rfl, hi, ca2, cs2, Hf2, acc, accV, n2, da, r2, h2⟩
  have r2B := r2.less (exn accV)
  obtain ⟨hstop, hgo⟩ := hJ (upd B D (.lst accV)) ca2 ρ cs2 Hf2 σ H2 i n2 r2 hi
  by_cases hlt : i < xs.length
  · obtain ⟨go, yl⟩ := hgo hlt
    refine .inr ⟨go, fun H' => i + 1 ≤ xs.length ∧ ∃ ca2 cs2 Hf2 acc accV, Nx ca1 Hf1 ca2 Hf2 ∧ Dds Hf2 accV acc ∧ Rel (upd B D (.lst accV)) ca2 ρ cs2 Hf2 σ H' ∧ Gs X W B ca2 Hf2 ρ σ (lcL g t f (wipeS ρ vs) (xs.drop (i + 1)) acc cs2) (fun ca' Hf' H' _ rv => ∀ v, RvOk B ca' Hf' H' rv v → Q v H'),
      fun H' p' => ⟨xs.length - (i + 1), by omega, rfl, p'.1, p'.2⟩, fun x H3 y => ?_⟩
    obtain ⟨Hf3, n3, r3, d, ed, hd⟩ := yl x H3 y
    have ed' : xs.drop i = d :: xs.drop (i + 1) := by
      rw [List.drop_eq_getElem_cons hlt]
      rw [List.getElem?_eq_getElem hlt] at ed
      rw [Option.some.inj ed]
    rw [ed'] at h2
    unfold lcL at h2
    cases eg : g d (wipeS ρ vs) with
    | none => rw [eg] at h2; exact h2.elim
    | some ρ1 =>
      rw [eg] at h2
      refine ⟨upd B D (.lst accV), ca2, wipeS ρ vs, ρ1, cs2, Hf3, d, r3.wipe vs, hd, eg, fun σ2 w2 r4 => ⟨w2.trans (wipe_wipe σ vs vs fun _ h => h), ?_⟩⟩
      have h3 := Gs.fwd h2 n3
      obtain ⟨k1, k2, k3⟩ := Gs.noEr_ h3
      refine ⟨upd B D (.lst accV), ca2, ρ1, cs2, Hf3, r4, ?_⟩
      cases et : t ρ1 cs2 with
      | no => exact absurd et k2
      | er c cs' => exact absurd et (k3 c cs')
      | ok b cs3 =>
        have h4 := k1 b cs3 et
        intro ca4 Hf4 H4 n4 r5
        have back := fun {σ' : L2.St} {ρ' : List S} {cs' : Store} {ca' : List Addr} {Hf' H' : Hp} {V : List V} (n : Nx ca2 Hf2 ca' Hf') (r' : Rel (upd B D (.lst V)) ca' ρ' cs' Hf' σ' H') => Rel.slots (ρ' := ρ) (σ' := σ) r' r2.len fun i s e => by
          rcases r2.sl i s e with z | ⟨v, h1, h2⟩
          · exact .inl z
          · exact .inr ⟨v, h1, h2.nx n⟩
        cases b with
        | false =>
          refine ⟨hlt, ca4, cs3, Hf4, acc, accV, (n2.trans n3).trans n4, dps_ex (n3.trans n4).ex da, back (n3.trans n4) r5, ?_⟩
          exact Gs.fwd h4 n4
        | true =>
          have h5 := Gs.fwd h4 n4
          obtain ⟨j1, j2, j3⟩ := Gs.noEr_ h5
          refine ⟨upd B D (.lst accV), ca4, ρ1, cs3, Hf4, r5, ?_⟩
          cases ef : f ρ1 cs3 with
          | no => exact absurd ef j2
          | er c cs' => exact absurd ef (j3 c cs')
          | ok y cs4 =>
            have h6 := j1 y cs4 ef
            intro ca5 Hf5 H5 n5 r6 v hv
            cases y with
            | no => exact h6.elim
            | cel j => exact h6.elim
            | fn a => exact h6.elim
            | d z =>
              have h7 : Gs X W B ca4 Hf4 ρ σ ((if acc.length < sizeLine then lcL g t f (wipeS ρ vs) (xs.drop (i + 1)) (acc ++ [z]) else stuck) cs4) _ := h6
              split at h7
              · rename_i hz
                have hl := dps_len da
                refine ⟨accV, r6.exb D _ upd_same, by rw [hl]; exact hz, hlt, ca5, cs4, Hf5, acc ++ [z], accV ++ [v], ((n2.trans n3).trans n4).trans n5, dps_app (dps_ex ((n3.trans n4).trans n5).ex da) (.cons hv .nil), ?_, Gs.fwd h7 n5⟩
                have r7 := back ((n3.trans n4).trans n5) r6
                have dD := r7.disn (a := D) upd_same (fun _ _ z => nomatch z)
                refine ⟨fun a o e => ?_, r7.len, r7.sl, fun j o e => ?_, r7.lenc, r7.nd, r7.off, fun a o e => ?_, fun a e => ?_⟩
                · by_cases q : a = D
                  · subst q; rw [dD.1] at e; cases e
                  · rw [upd_ne q]; exact r7.ext a o e
                · obtain ⟨a, g1, g2⟩ := r7.cells j o e
                  refine ⟨a, g1, g2.at (upd_ne ?_) fun _ _ h => h⟩
                  intro q
                  subst q
                  exact dD.2 (List.mem_of_getElem? g1)
                · by_cases q : a = D
                  · subst q; rw [upd_same] at e ⊢; exact e
                  · rw [upd_ne q] at e ⊢
                    exact r7.exb a o (by rw [upd_ne q]; exact e)
                · by_cases q : a = D
                  · subst q; exact ⟨dD.1, .inl dD.2⟩
                  · rw [upd_ne q] at e
                    have z := r7.dis a (by rw [upd_ne q]; exact e)
                    rw [upd_ne q] at z ⊢
                    exact z
              · exact h7.elim
  · have e : i = xs.length := by omega
    refine .inl ⟨hstop e, ?_⟩
    rw [e, List.drop_length] at h2
    have h3 := Gs.ret_ (show Gs X W B ca2 Hf2 ρ σ (ret (Rv.own (OC.lst acc)) cs2) (fun ca' Hf' H' _ rv => ∀ v, RvOk B ca' Hf' H' rv v → Q v H') from h2) r2B
    have dD := r2.disn (a := D) upd_same (fun _ _ z => nomatch z)
    exact h3 (.ref D) ⟨D, rfl, ⟨accV, r2.exb D _ upd_same, da⟩, dD.1, dD.2, d3⟩
theorem do_lc (own : List (Str × Nat)) (hN : X.N.Nodup) (hi : DI X W tg iter it)
    (hg : ∀ (s : Shared) (H : Hp) (C : Addr) (cl : List (Str × Addr)) (fp : List Addr), DGb (X.blk s H scope (compEnvC scope cl C X.env) fp) (own.map (·.2)) tg g)
    (ht : ∀ (s : Shared) (H : Hp) (C : Addr) (cl : List (Str × Addr)) (fp : List Addr), DTs (X.blk s H scope (compEnvC scope cl C X.env) fp) Wf ifs t)
    (he : ∀ (s : Shared) (H : Hp) (C : Addr) (cl : List (Str × Addr)) (fp : List Addr), DE (X.blk s H scope (compEnvC scope cl C X.env) fp) Wf elt f)
    (hk : blkC X.N X.env.scope scope own = true := by rfl) (hc : X.calm = true := by rfl) (hs : ∀ x, foldedSetIterable iter X.env x = pure x := by intro _; rfl) :
    DO X W (.ListComp elt [⟨tg, iter, ifs, 0⟩] scope pos) (eLc it g t f (own.map (·.2))) := by
  obtain ⟨wi, pi, ki⟩ := hi
  refine ⟨_, pe_lc (g := tgOf g (own.map (·.2))) (tt := ttOf X t) (te := teOf X f) hc hN pi (blkOk_by hk) (fun s H C cl fp => ?_) (fun s H C cl fp => ?_) (fun s H C cl fp => ?_) hs, fun B ca ρ cs Hf σ H Q r h => lc_run ki r h⟩
  · obtain ⟨t', p, k⟩ := hg s H C cl fp
    exact ⟨fun pins s σ H v u Q I rv ⟨B, ca, ρ, ρ', cs, Hf, d, r, hd, e, q⟩ => p.run pins s σ H v u Q I rv (k B ca ρ ρ' cs Hf σ H v d Q r hd e q)⟩
  · obtain ⟨t', p, k⟩ := ht s H C cl fp
    exact ⟨fun pins s σ H Q I ⟨B, ca, ρ, cs, Hf, r, h⟩ => p.run pins s σ H Q I (k B ca ρ cs Hf σ H Q r h)⟩
  · obtain ⟨t', p, k⟩ := he s H C cl fp
    exact ⟨fun pins s σ H Q I ⟨B, ca, ρ, cs, Hf, r, h⟩ => p.run pins s σ H Q I (k B ca ρ cs Hf σ H Q r h)⟩
theorem takesWf : Takes X Wf := fun _ _ h => by
  obtain ⟨_, _, _, _, _, _, _, _, _, _, _, _, _, _, _, _, z⟩ := h
  exact z.elim
end
end Dn

set_option Elab.async false
set_option linter.all false
set_option maxRecDepth 100000
set_option maxHeartbeats 4000000
namespace Dn
open PySem L2
open PySem.Spec PyProof.Rows
def mK (l : List Key) (k : Key) : Bool := l.any fun x => decide (x = k)
theorem mK_iff (l : List Key) (k : Key) : mK l k = true ↔ k ∈ l := by simp [mK]
def dd1 (l : List Key) (k : Key) : List Key := if mK l k = true then l else l ++ [k]
/-- what is met first, of keys -/
def fmK (ks : List Key) : List Key := ks.foldl dd1 []
theorem fmK_snoc (ks : List Key) (k : Key) : fmK (ks ++ [k]) = dd1 (fmK ks) k := by
  unfold fmK; rw [List.foldl_append]; rfl
theorem sd_len (l : List Key) (v : Key) : (dd1 l v).length = if mK l v = true then l.length else l.length + 1 := by
  unfold dd1; split <;> simp
theorem fmK_le0 (ks : List Key) : ∀ l : List Key, (ks.foldl dd1 l).length ≤ l.length + ks.length := by
  induction ks with
  | nil => intro l; exact Nat.le_refl _
  | cons k ks ih =>
    intro l
    have h := ih (dd1 l k)
    have h2 := sd_len l k
    rw [List.foldl_cons, List.length_cons]
    split at h2 <;> omega
theorem fmK_le (ks : List Key) : (fmK ks).length ≤ ks.length := by
  have := fmK_le0 ks []
  simpa [fmK] using this
/-- keys of data -/
def kyD : D → Option Key
  | .int i => some (.inl i)
  | .str x => some (.inr x)
  | _ => none
def kysD : List D → Option (List Key)
  | [] => some []
  | x :: xs => match kyD x, kysD xs with
    | some k, some ks => some (k :: ks)
    | _, _ => none
def kvV : Value → Key
  | .int i _ => .inl i
  | .str x _ => .inr x
  | _ => .inl 0
theorem kvV_is {v : Value} {k k' : Key} (h : keyIs k v = true) : keyIs k' v = true ↔ kvV v = k' := by
  rcases keyIs_shape h with ⟨i, t, rfl, rfl⟩ | ⟨x, t, rfl, rfl⟩
  · constructor
    · intro q
      rcases keyIs_shape q with ⟨j, u, rfl, e⟩ | ⟨y, u, rfl, e⟩
      · injection e with e1 _; rw [e1]; rfl
      · cases e
    · rintro rfl
      exact keyIs_int i t
  · constructor
    · intro q
      rcases keyIs_shape q with ⟨j, u, rfl, e⟩ | ⟨y, u, rfl, e⟩
      · cases e
      · injection e with e1 _; rw [e1]; rfl
    · rintro rfl
      exact keyIs_str x t
theorem kvV_self {v : Value} {k : Key} (h : keyIs k v = true) : kvV v = k := (kvV_is h).mp h
def kvE (e : Int × Value) : Key := kvV e.2
def GdE (w : World) (e : Int × Value) : Prop := ∃ k, keyIs k e.2 = true ∧ e.1 = keyH w k
theorem scan_of {v : Value} {k : Key} (h : keyIs k v = true) : v.scannable = true := by
  rcases keyIs_shape h with ⟨i, t, rfl, rfl⟩ | ⟨x, t, rfl, rfl⟩ <;> rfl
/-- the set at a holds the keys ks, one each, and can be walked -/
def SetX (w : World) (h : Heap) (a : Addr) (ks : List Key) : Prop :=
  ∃ o es ep t, h.get? a = some o ∧ o.ExactSet ∧ o.data = .set es ep t ∧ (∀ e ∈ es.toList, GdE w e) ∧ ks.Nodup ∧ (es.toList.map kvE).Perm ks ∧
    es.size < scanBound ∧ t.fits es.size = true ∧ Ris t.place.toList ∧ (w.params.followText "set-order" = true ∨ t.led = true)
section
variable {P : Program} {w : World} {h h' : Heap} {a : Addr} {ks : List Key}
theorem SetX.at (R : SetX w h a ks) (k : ∀ o, h.get? a = some o → h'.get? a = some o) : SetX w h' a ks := by
  obtain ⟨o, es, ep, t, ho, r⟩ := R
  exact ⟨o, es, ep, t, k o ho, r⟩
theorem gd_elems {l : List (Int × Value)} (g : ∀ e ∈ l, GdE w e) : ElemsOf (mixKind P w) l := fun e he => by
  obtain ⟨k, h1, h2⟩ := g e he
  exact ⟨⟨k, h1, h2⟩, scan_of h1⟩
theorem gd_mem {l : List (Int × Value)} (g : ∀ e ∈ l, GdE w e) (k : Key) : k ∈ l.map kvE ↔ ∃ e ∈ l, (mixKind P w).is k e.2 = true := by
  rw [List.mem_map]
  constructor
  · rintro ⟨e, he, q⟩
    obtain ⟨k0, h1, _⟩ := g e he
    exact ⟨e, he, (kvV_is h1).2 q⟩
  · rintro ⟨e, he, q⟩
    obtain ⟨k0, h1, _⟩ := g e he
    exact ⟨e, he, (kvV_is h1).1 q⟩
end
section
variable {P : Program} {w : World} {A : Around} {E : Value → Shared → Prop} {s : Shared} {a : Addr} {ks : List Key}
theorem putX_at {h : Heap} {o : Obj} {es es' : Array (Int × Value)} {ep : Nat} {t t' : SetTable} (ho : h.get? a = some o) (hd : o.data = .set es ep t) :
    (h.update a (Obj.putSet es' t')).get? a = some { o with data := .set es' (ep + 1) t' } := by
  have q := Heap.get?_update_self (Obj.putSet es' t') ho (by rw [putSet_of es' t' hd]; rfl)
  rwa [putSet_of es' t' hd] at q
/-- the tail of an add: laid, and laid anew where it is too full -/
theorem setX_tail {g : Bool → Sem Unit} (hg : ∀ (b : Bool) (s1 : Shared) (Q' : Unit → Shared → Prop), Q' () s1 → wpAny (model P w) A (g b) Q' E s1)
    {o : Obj} {es : Array (Int × Value)} {ep : Nat} {t : SetTable} (ho : s.heap.get? a = some o) (hex : o.ExactSet) (hd : o.data = .set es ep t)
    {f1 : Array (Int × Value)} {t2 : SetTable} {ks' : List Key} (g1 : ∀ e ∈ f1.toList, GdE w e) (nd1 : ks'.Nodup) (p1 : (f1.toList.map kvE).Perm ks')
    (hb1 : f1.size < scanBound) (hf2 : t2.fits f1.size = true) (hr : Ris t2.place.toList) (hl : w.params.followText "set-order" = true ∨ t2.led = true) {dummy : Bool} {R : Option Bool → Shared → Prop}
    (hR : ∀ h', Heap.SameBut a s.heap h' → SetX w h' a ks' → R (some true) { s with heap := h' }) :
    wpAny (model P w) A (do
        storeSet a f1 t2
        if (!dummy && t2.tooFull) = true then do
            g (relayAll t2 f1 (SetTable.grown f1.size)).2.2
            storeSet a (relayAll t2 f1 (SetTable.grown f1.size)).1 (relayAll t2 f1 (SetTable.grown f1.size)).2.1
            pure (some true)
          else pure (some true)) R E s := by
  refine wpAny_bind (wpAny_storeSet_of ho hd ?_ (fits_of_scanBound hb1))
  have k1 := putX_at (es' := f1) (t' := t2) ho hd
  have b1 := Heap.SameBut.update s.heap a (Obj.putSet f1 t2)
  split
  · have pm := relayAll_perm t2 f1 (SetTable.grown f1.size)
    have q3 := relayAll_fits t2 f1 (SetTable.grown f1.size)
    have q4 := relayAll_ris t2 f1 (SetTable.grown f1.size)
    have q5 := relayAll_led t2 f1 (SetTable.grown f1.size)
    generalize relayAll t2 f1 (SetTable.grown f1.size) = Z at pm q3 q4 q5 ⊢
    obtain ⟨f2, t3, gv⟩ := Z
    dsimp only at pm q3 q4 q5 ⊢
    have hsz : f2.size = f1.size := by rw [← Array.length_toList, pm.length_eq, Array.length_toList]
    have hb2 : f2.size < scanBound := hsz ▸ hb1
    refine wpAny_bind (hg _ _ _ ?_)
    refine wpAny_bind (wpAny_storeSet_of k1 rfl ?_ (fits_of_scanBound hb2))
    have k2 := putX_at (es' := f2) (t' := t3) k1 rfl
    refine wpAny_pure (hR _ (b1.trans (Heap.SameBut.update _ a _)) ?_)
    exact ⟨_, f2, _, t3, k2, hex, rfl, fun e he => g1 e (pm.mem_iff.mp he), nd1, (pm.map kvE).trans p1, hb2, q3, q4, hl.imp id fun z => q5.trans z⟩
  · exact wpAny_pure (hR _ b1 ⟨_, f1, _, t2, k1, hex, rfl, g1, nd1, p1, hb1, hf2, hr, hl⟩)
theorem setX_add {k : Key} {v : Value} (hkey : keyIs k v = true) {Q : Bool → Shared → Prop} (R : SetX w s.heap a ks) (room : ks.length + 1 < scanBound)
    (hQ : ∀ (b : Bool) h', Heap.SameBut a s.heap h' → SetX w h' a (dd1 ks k) → Q b { s with heap := h' }) :
    wpAny (model P w) A (setAddHashed a v ((mixKind P w).hash k)) Q E s := by
  obtain ⟨o, es, ep, t, ho, hex, hd, g, nd, pk0, hb, hf, hr, hl⟩ := R
  have hsc := scan_of hkey
  have hel : ElemsOf (mixKind P w) es.toList := gd_elems g
  have hkey' : (mixKind P w).is k v = true := hkey
  unfold setAddHashed setAddHashedIn
  refine wpAny_holding (wpAny_bind (wpAny_setState_of ho hd hf ?_))
  dsimp only
  rw [byScan_of hsc hb hel]
  simp only [↓reduceIte]
  unfold setAddByScan
  refine wpAny_bind ?_
  refine wpAny_bind (wpAny_rule ?_)
  refine wpAny_bind (wpAny_setScan_of hkey' ho hd hf hel ?_)
  cases hfi : List.findIdx? (fun e => (mixKind P w).is k e.2) es.toList with
  | some j =>
    dsimp only
    obtain ⟨hj, pj, _⟩ := List.findIdx?_eq_some_iff_getElem.mp hfi
    have hin : k ∈ ks := pk0.mem_iff.mp ((gd_mem (P := P) (w := w) g k).2 ⟨es.toList[j], List.getElem_mem hj, pj⟩)
    have ed : dd1 ks k = ks := by unfold dd1; rw [if_pos ((mK_iff ks k).2 hin)]
    refine wpAny_pure (wpAny_pure ?_)
    exact hQ _ s.heap (Heap.SameBut.refl a s.heap) (by rw [ed]; exact ⟨o, es, ep, t, ho, hex, hd, g, nd, pk0, hb, hf, hr, hl⟩)
  | none =>
    dsimp only
    have hnk0 : k ∉ es.toList.map kvE := fun z => by
      obtain ⟨e, he, q⟩ := (gd_mem (P := P) (w := w) g k).1 z
      have c := List.findIdx?_eq_none_iff.mp hfi e he
      rw [q] at c
      cases c
    have hnk : k ∉ ks := fun z => hnk0 (pk0.mem_iff.mpr z)
    have ed : dd1 ks k = ks ++ [k] := by
      unfold dd1
      rw [if_neg fun z => hnk ((mK_iff ks k).1 z)]
    have hgw : ∀ (b : Bool) {s1 : Shared} {Q' : Unit → Shared → Prop}, Q' () s1 → wpAny (model P w) A (match b with | true => rule "set.scan.the-table-gave-way" | false => pure ()) Q' E s1 :=
      fun b s1 Q' q => by cases b <;> first | exact wpAny_pure q | exact wpAny_rule q
    have pm := layNew_perm t es ((mixKind P w).hash k) v
    have q1 := layNew_fits t es ((mixKind P w).hash k) v
    have q2 := layNew_ris t es ((mixKind P w).hash k) v hr
    have q3 := layNew_led t es ((mixKind P w).hash k) v
    generalize layNew t es ((mixKind P w).hash k) v = Z at pm q1 q2 q3 ⊢
    obtain ⟨f1, t1, dummy, gv⟩ := Z
    dsimp only at pm q1 q2 q3 ⊢
    rw [Array.toList_push] at pm
    have pc : f1.toList.Perm (((mixKind P w).hash k, v) :: es.toList) := pm.trans (List.perm_append_singleton _ _)
    have pk : (f1.toList.map kvE).Perm (dd1 ks k) := by
      have z := pc.map kvE
      rw [List.map_cons, show kvE ((mixKind P w).hash k, v) = k from kvV_self hkey] at z
      rw [ed]
      exact z.trans ((pk0.cons k).trans (List.perm_append_singleton _ _).symm)
    have g1 : ∀ e ∈ f1.toList, GdE w e := fun e he => by
      rcases List.mem_cons.mp (pc.mem_iff.mp he) with z | z
      · rw [z]; exact ⟨k, hkey, rfl⟩
      · exact g e z
    have nd1 : (dd1 ks k).Nodup := by
      rw [ed]
      exact (List.perm_append_singleton k ks).nodup_iff.mpr (List.nodup_cons.mpr ⟨hnk, nd⟩)
    have hsz : f1.size = ks.length + 1 := by
      have z1 := pc.length_eq
      have z2 := pk0.length_eq
      rw [List.length_map] at z2
      rw [List.length_cons, z2, Array.length_toList] at z1
      exact z1
    have hb1 : f1.size < scanBound := by rw [hsz]; exact room
    have hled : w.params.followText "set-order" = true ∨ t1.led = true := hl.imp id fun z => q3.trans z
    refine wpAny_bind (hgw _ ?_)
    split
    · refine wpAny_bind ?_
      rw [hashByValue_scannable 8 hsc]
      refine wpAny_pure ?_
      refine setX_tail ?_ ho hex hd g1 nd1 pk hb1 ?_ ?_ ?_ ?_
      · intro b s1 Q' q; cases b <;> first | exact wpAny_pure q | exact wpAny_rule q
      · first | (split <;> first | exact q1 | exact SetTable.fits_plain_off q1) | exact q1
      · first | (split <;> exact q2) | exact q2
      · first | (split <;> exact hled) | exact hled
      · intro h' sb r; dsimp only; exact wpAny_pure (hQ _ h' sb r)
    · refine wpAny_bind (wpAny_pure ?_)
      simp only [↓reduceIte]
      refine setX_tail ?_ ho hex hd g1 nd1 pk hb1 q1 q2 hled ?_
      · intro b s1 Q' q; cases b <;> first | exact wpAny_pure q | exact wpAny_rule q
      · intro h' sb r; dsimp only; exact wpAny_pure (hQ _ h' sb r)
end
section
variable {prog : Program} {w : World}
variable {A : Around} {R : Result → Shared → Prop} {I : Addr} {fp wr : List Addr} {G : Array GenState → Array GenState → Prop} {P : Nat → Value → Prop} {St : Nat → Shared → Prop}
theorem setLoopX {n : Nat} (ks : List Key) (W : WalksS prog w A.in1 I fp wr G n P St) (hn : ks.length = n) (D : Addr) (hD : D ∉ fp)
    (hval : ∀ j v k, P j v → ks[j]? = some k → keyIs k v = true) (hb : ks.length + 1 < scanBound) (m : Nat) :
    ∀ (j : Nat) (s1 : Shared), ks.length - j = m → j ≤ ks.length → St j s1 →
      SetX w s1.heap D (fmK (ks.take j)) →
      (∀ s2, Moved (D :: wr) G s1 s2 → SetX w s2.heap D (fmK ks) → R (.ok (.ret .none)) s2) →
      codeAny (model prog w) A (.builtin "set.update.loop" ⟨[.ref D, .ref I], []⟩) R s1 := by
  subst hn
  have nD : D ∉ wr := fun z => hD (W.sub _ z)
  have up : ∀ b ∈ wr, b ∈ D :: wr := fun b hb => List.mem_cons_of_mem _ hb
  induction m with
  | zero =>
    intro j s1 hk hj hst hS hR
    obtain rfl : j = ks.length := by omega
    rw [List.take_length] at hS
    refine codeAny_builtin PyProof.Rows.F.entry_set_update_loop ?_
    rw [Around.under_plainId PyProof.Rows.F.plain_set_update_loop _]
    show wpAny _ A.in1 (pyNext (.ref I) >>= _) _ _ s1
    refine wpAny_bind (W.done s1 _ _ hst fun s2 hm => ?_)
    show wpAny _ A.in1 (PySem.ret Value.none) _ _ s2
    exact wpAny_pure (hR s2 (hm.mono up) (hS.at fun o ho => hm.heap D o nD ho))
  | succ m ih =>
    intro j s1 hk hj hst hS hR
    have lt : j < ks.length := by omega
    have ek : ks[j]? = some ks[j] := by simp [lt]
    have et : ks.take (j + 1) = ks.take j ++ [ks[j]] := by rw [List.take_succ, ek]; rfl
    refine codeAny_builtin PyProof.Rows.F.entry_set_update_loop ?_
    rw [Around.under_plainId PyProof.Rows.F.plain_set_update_loop _]
    show wpAny _ A.in1 (pyNext (.ref I) >>= _) _ _ s1
    refine wpAny_bind (W.item j s1 _ _ lt hst fun v s2 hP hst2 hm => ?_)
    have hv := hval j v _ hP ek
    have hS2 : SetX w s2.heap D (fmK (ks.take j)) := hS.at fun o ho => hm.heap D o nD ho
    show wpAny _ A.in1 (holding [v] (setAdd D v) >>= _) _ _ s2
    refine wpAny_bind (wpAny_holding ?_)
    unfold setAdd
    refine wpAny_holding ?_
    refine wpAny_bind ((mixKind prog w).pyHash (k := ks[j]) hv ?_)
    have room : (fmK (ks.take j)).length + 1 < scanBound := by
      have := fmK_le (ks.take j)
      rw [List.length_take] at this
      omega
    refine setX_add (s := { s2 with toks := s2.toks + 1 }) hv hS2 room fun b h3 hsb hS3 => ?_
    have hS4 : SetX w h3 D (fmK (ks.take (j + 1))) := by
      rw [et, fmK_snoc]
      exact hS3
    refine wpAny_pure ⟨plainId_quiet PyProof.Rows.F.plain_set_update_loop _, ih (j + 1) _ (by omega) lt (W.frame _ s2 _ _ hst2 (Nat.le_succ _) fun b hb o e => ?_) hS4 fun s5 hm5 hS5 => ?_⟩
    · rw [hsb.2 b (fun z : b = D => hD (by rw [← z]; exact hb))]; exact e
    · refine hR s5 (Moved.trans W.gtrans ((hm.mono up).then_heap (Nat.le_succ _) fun b o hb e => ?_) hm5) hS5
      rw [hsb.2 b (fun z : b = D => hb (by rw [z]; exact List.mem_cons_self))]; exact e
end
section
variable {P : Program} {w : World} {A : Around} {E : Value → Shared → Prop} {s0 : Shared}
abbrev freshSet (led : Bool) : Obj := { cls := .type "set", dict := none, data := .set #[] 0 (.fresh 0 0 led) }
theorem led_or (w : World) : w.params.followText "set-order" = true ∨ (!w.params.followText "set-order") = true := by
  cases w.params.followText "set-order"
  · exact .inr rfl
  · exact .inl rfl
/-- set(xs), xs a list or a tuple -/
theorem setCallX (tup : Bool) {l : Addr} {items : Array Value} {ks : List Key} {Q : Value → Shared → Prop}
    (hh : A.handled = none) (hl : if tup = true then s0.heap.IsTuple l items else s0.heap.IsList l items) (hk : ks.length = items.size) (hi : ∀ (j : Nat) (v : Value) (k : Key), items[j]? = some v → ks[j]? = some k → keyIs k v = true) (hb : ks.length + 1 < scanBound)
    (h : ∀ (g : Heap) (tk : Nat), SetX w g s0.heap.objs.size (fmK ks) →
      (∀ b o, b < s0.heap.objs.size → s0.heap.get? b = some o → g.get? b = some o) → Q (.ref s0.heap.objs.size) { s0 with heap := g, toks := tk }) :
    wpAny (model P w) A (call (.type "set") [.ref l]) Q E s0 := by
  obtain ⟨c, tl, q1⟩ := PySem.F.called_set.mro
  have q2 := PySem.F.called_set.made
  have q3 := PySem.F.called_set.sub
  refine wpAny_call (codeAny_of_tree ?_)
  show wpAny _ _ (callAny (.type "set") _) _ _ _
  refine wpAny_pure ⟨Code.quiet_builtin _ (by decide +kernel), codeAny_builtin PySem.F.entry_type_call ?_⟩
  rw [Around.under_plain (weight_type_call_type "set" [.ref l] []) rfl]
  have q4 := PySem.F.called_set.notType
  have q5 := PySem.F.called_set.canCreate
  have q6 := PySem.F.typeCall_set_1 (.ref l)
  repeat (any_goals (first | assumption | wp_step))
  generalize hD : s0.heap.objs.size = D at *
  refine codeAny_mono (code_set_led1 (w := w) (.ref l) (E := E) (Q₁ := fun u s1 => ∃ led : Bool, (w.params.followText "set-order" = true ∨ led = true) ∧ u = .ref D ∧ s1 = { s0 with heap := s0.heap.push (freshSet led) }) ⟨_, led_or w, by rw [hD], rfl⟩) fun r s1 hr => ?_
  cases r with
  | error e => exact hr
  | ok fl =>
    cases fl with
    | ret u =>
      obtain ⟨led, hled, rfl, rfl⟩ := hr
      have gS : (s0.heap.push (freshSet led)).get? D = some (freshSet led) := by rw [← hD]; exact Heap.get?_push_size _ rfl
      have hT : Shared.TypeIs { s0 with heap := s0.heap.push (freshSet led) } (.ref D) "set" := ⟨_, gS, rfl⟩
      have q7 := PySem.F.called_set.init.lookup
      have q8 := PySem.F.called_set.init.bind (.ref D)
      repeat (any_goals (first | assumption | wp_step))
      refine codeAny_mono (codeAny_call_builtin (R := wants (fun r s2 => r = .none ∧ ∃ g tk, s2 = { s0 with heap := g, toks := tk } ∧ SetX w g D (fmK ks) ∧
          (∀ b o, b < D → s0.heap.get? b = some o → g.get? b = some o)) E) PySem.F.called_set.init.plain PySem.F.entry_set_init (check_set_init_1 hT ?_)) fun r2 s2 hr2 => ?_
      · have h3 : A.in1.in1.in1.handled = none := by simp [hh]
        have zero : ∀ o : Obj, SetX w ((s0.heap.push (freshSet led)).push o) D (fmK (ks.take 0)) := fun o =>
          ⟨_, #[], 0, _, Heap.get?_push_of_some _ gS, ⟨rfl, rfl, rfl⟩, rfl, (fun e he => by simp at he), (by simp [fmK]), (by simp [fmK]), (by decide), (by rfl), List.Pairwise.nil, hled⟩
        have fin : ∀ (o : Obj) (lp : Nat) (s3 : Shared), lp = (s0.heap.push (freshSet led)).objs.size → Moved [D, lp] (fun g g' => g' = g) { s0 with heap := (s0.heap.push (freshSet led)).push o } s3 → SetX w s3.heap D (fmK ks) →
            (∃ g tk, s3 = { s0 with heap := g, toks := tk } ∧ SetX w g D (fmK ks) ∧ (∀ b o, b < D → s0.heap.get? b = some o → g.get? b = some o)) := fun o lp s3 ew hm hS => by
          obtain ⟨g, gn, dr, tk, os⟩ := s3
          have e1 : gn = s0.gens := hm.gens
          have e2 : dr = s0.drawn := hm.drawn
          have e3 : os = s0.os := hm.os
          subst e1; subst e2; subst e3
          refine ⟨g, tk, rfl, hS, fun b u hb e => hm.heap b u ?_ (Heap.get?_push_of_some _ (Heap.get?_push_of_some _ e))⟩
          rw [Heap.size_push, hD] at ew
          simp only [List.mem_cons, List.not_mem_nil, or_false, not_or]
          refine ⟨Nat.ne_of_lt hb, ?_⟩
          rw [ew]
          exact Nat.ne_of_lt (Nat.lt_succ_of_lt hb)
        have lD : ∀ (o : Obj), s0.heap.get? l = some o → l < D := fun o e => by rw [← hD]; exact Heap.lt_size e
        have out : ∀ (I : Addr), I = (s0.heap.push (freshSet led)).objs.size → l < D → l ≠ I ∧ D ∉ [I, l] := fun I e z => by
          rw [Heap.size_push, hD] at e
          simp only [List.mem_cons, List.not_mem_nil, or_false, not_or]
          subst e
          exact ⟨Nat.ne_of_lt (Nat.lt_succ_of_lt z), Nat.ne_of_lt (Nat.lt_succ_self _), Nat.ne_of_gt z⟩
        cases tup with
        | false =>
          have hl' : s0.heap.IsList l items := hl
          obtain ⟨⟨oc, od, oda, osl⟩, g1, g2, nl, g3⟩ := hl'
          simp only at g2 g3
          subst g2; subst g3
          have g4 : (s0.heap.push (freshSet led)).get? l = some { cls := .type "list", dict := od, data := .seq items nl, slots := osl } := Heap.get?_push_of_some _ g1
          have q9 := PySem.F.sub_list_set
          have q10 := PySem.F.sub_list_frozenset
          have q11 : (Value.type "list" == Value.type "dict") = false := by decide
          have l1 : (s0.heap.push (freshSet led)).IsList l items := ⟨_, g4, rfl, nl, rfl⟩
          obtain ⟨n1, n2⟩ := out _ rfl (lD _ g1)
          unfold Builtin.«set.__init__» noKeywords Builtin.Frozenset.updateFrom
          generalize hPI : pyIter = PI
          wp_walk
          subst hPI
          refine wpAny_pyIter_list l1 ?_
          refine wpAny_bind (wpAny_runValue ?_)
          refine setLoopX (P := fun j v => items[j]? = some v) ks (Walks.list h3 _ l n1 items).toS hk D n2 (fun j v k a b => hi j v k a b) hb (ks.length - 0) 0 _ rfl (Nat.zero_le _)
            ⟨⟨_, Heap.get?_push_size _ rfl, rfl, rfl⟩, l1.push _⟩ (zero _) fun s3 hm hS => ?_
          show wpAny _ _ _ _ _ _
          refine wpAny_pure ?_
          show wpAny _ _ (PySem.ret Value.none) _ _ _
          exact wpAny_pure ⟨rfl, fin _ _ _ rfl hm hS⟩
        | true =>
          have hl' : s0.heap.IsTuple l items := hl
          obtain ⟨⟨oc, od, oda, osl⟩, g1, g2, nl, g3⟩ := hl'
          simp only at g2 g3
          subst g2; subst g3
          have g4 : (s0.heap.push (freshSet led)).get? l = some { cls := .type "tuple", dict := od, data := .seq items nl, slots := osl } := Heap.get?_push_of_some _ g1
          have q9 := PySem.F.sub_tuple_set
          have q10 := PySem.F.sub_tuple_frozenset
          have q11 : (Value.type "tuple" == Value.type "dict") = false := by decide
          have l1 : (s0.heap.push (freshSet led)).IsTuple l items := ⟨_, g4, rfl, nl, rfl⟩
          obtain ⟨n1, n2⟩ := out _ rfl (lD _ g1)
          unfold Builtin.«set.__init__» noKeywords Builtin.Frozenset.updateFrom
          generalize hPI : pyIter = PI
          wp_walk
          subst hPI
          refine wpAny_pyIter_tuple l1 ?_
          refine wpAny_bind (wpAny_runValue ?_)
          refine setLoopX (P := fun j v => items[j]? = some v) ks (Walks.tuple h3 _ l n1 items).toS hk D n2 (fun j v k a b => hi j v k a b) hb (ks.length - 0) 0 _ rfl (Nat.zero_le _)
            ⟨⟨_, Heap.get?_push_size _ rfl, rfl, rfl⟩, l1.push _⟩ (zero _) fun s3 hm hS => ?_
          show wpAny _ _ _ _ _ _
          refine wpAny_pure ?_
          show wpAny _ _ (PySem.ret Value.none) _ _ _
          exact wpAny_pure ⟨rfl, fin _ _ _ rfl hm hS⟩
      · cases r2 with
        | error e => exact hr2
        | ok fl2 =>
          cases fl2 with
          | ret r =>
            obtain ⟨rfl, g, tk, rfl, hS, hk2⟩ := hr2
            repeat (any_goals (first | assumption | wp_step))
            exact h _ _ hS hk2
          | _ => exact hr2.elim
    | _ => exact hr.elim
end
section
variable {X : Cx} {W : WX} {a : Expr} {f : List S → M S}
theorem vals_keys {P : Program} {w : World} : ∀ {ks : List Key} {us : List Value}, Vals (ks.map kV) us → ∀ (j : Nat) (v : Value) (k : Key), us[j]? = some v → ks[j]? = some k → (mixKind P w).is k v = true
  | [], _, .nil, j, v, k, h, _ => by simp at h
  | k0 :: ks, _, .cons r t, 0, v, k, h, e => by
    simp at h e
    subst h; subst e
    cases k0 with
    | inl i =>
      obtain ⟨q, rfl⟩ := r
      simp [mixKind, keyIs, Value.isInt, Value.isStrOf]
    | inr x =>
      obtain ⟨q, rfl⟩ := r
      simp [mixKind, keyIs, Value.isInt, Value.isStrOf]
  | k0 :: ks, _, .cons r t, j + 1, v, k, h, e => vals_keys t j v k (by simpa using h) (by simpa using e)
def lnSD : D → Option D
  | .list xs => match kysD xs with
    | some ks => if ks.length < 4000 then some (.int (fmK ks).length) else none
    | none => none
  | .tuple xs => match kysD xs with
    | some ks => if ks.length < 4000 then some (.int (fmK ks).length) else none
    | none => none
  | _ => none
def lenSetG : List D → Option D
  | [d] => lnSD d
  | _ => none
theorem kys_vs {Hf : Hp} : ∀ {vs : List V} {xs : List D} {ks : List Key}, Dds Hf vs xs → kysD xs = some ks → vs = ks.map kV
  | _, _, ks, .nil, e => by
    have : [] = ks := Option.some.inj e
    subst this; rfl
  | _, _, ks, .cons (d := d) (ds := ds) h t, e => by
    unfold kysD at e
    split at e
    · rename_i k ks' e1 e2
      cases e
      have ih := kys_vs t e2
      subst ih
      cases d with
      | int i => cases h; cases e1; rfl
      | str x => cases h; cases e1; rfl
      | _ => cases e1
    · cases e
end
def chD (c : Nat) : D := .str ⟨#[c]⟩
section
variable {X : Cx} {W : WX} {a tg : Expr} {fa : List S → M S}
end
section
variable {X : Cx} {tg : Expr}
def iAny (K : PySem.W.Frag) (te : TE) : TI := fun σ H R => te σ H fun v H1 => (∃ a, v = V.ref a ∧ (∃ xs, SqL K H1 a xs) ∧ R (Itl K a) H1) ∨ (∃ a, v = V.ref a ∧ (∃ xs, SqT K H1 a xs) ∧ R (Itt K a) H1) ∨ ∃ x, v = V.str x ∧ R (Its x) H1
theorem pi_any {e : Expr} {te : TE} (he : PE X e te) : PI X tg e (iAny X.K te) := by
  refine ⟨fun pins s σ H R I h => ?_⟩
  refine thn (he.run pins s σ H _ I h) fun v s1 ⟨y, H1, J1, r1, q⟩ => ?_
  rcases q with ⟨a, rfl, ⟨xs, hq⟩, q⟩ | ⟨a, rfl, ⟨xs, hq⟩, q⟩ | ⟨x, rfl, q⟩
  · cases r1
    obtain ⟨its, rv, p, hz⟩ := J1.list hq
    exact wpAny_pyIter_list p.isList (pi_one (tk := s1.toks) J1 _ (turn_list a _) ⟨_, Heap.get?_push_size _ rfl, rfl, rfl⟩ q)
  · cases r1
    obtain ⟨its, rv, p, hz⟩ := J1.tuple hq
    exact wpAny_pyIter_tuple (show s1.heap.IsTuple a its.toArray from p) (pi_one (tk := s1.toks) J1 _ (turn_tuple a _) ⟨_, Heap.get?_push_size _ rfl, rfl, rfl⟩ q)
  · obtain ⟨t, rfl⟩ := r1
    cases ha : x.cps.all (· < 128)
    · exact wpAny_pyIter_wide ha (pi_one (tk := s1.toks) J1 _ (turn_str _ x t "str_iterator" (.inr rfl)) ⟨_, Heap.get?_push_size _ rfl, rfl, rfl⟩ q)
    · exact wpAny_pyIter_ascii ha (pi_one (tk := s1.toks) J1 _ (turn_str _ x t "str_ascii_iterator" (.inl rfl)) ⟨_, Heap.get?_push_size _ rfl, rfl, rfl⟩ q)
def itD : D → Option (List D)
  | .list xs => some xs
  | .tuple xs => some xs
  | .str x => some (x.cps.toList.map chD)
  | _ => none
def iAnyM (f : List S → M S) (ρ : List S) : M (List D) := bnd (f ρ) fun s => match s with
  | .d x => ofO (itD x)
  | _ => stuck
variable {W : WX} {a : Expr} {fa : List S → M S}
theorem di_any (ha : DE X W a fa) : DI X W tg a (iAnyM fa) := by
  obtain ⟨t, p, k⟩ := ha
  refine ⟨_, pi_any p, fun B ca ρ cs Hf σ H R r h => ?_⟩
  refine k B ca ρ cs Hf σ H _ r (h.bind.mono fun ca1 Hf1 H1 cs1 s n1 r1 h1 v hv => ?_)
  cases s with
  | d x =>
    cases x with
    | list xs =>
      have hv' : Dd Hf1 v (.list xs) := hv
      cases hv' with
      | lst g1 g2 =>
        rename_i l vs
        refine .inl ⟨l, rfl, ⟨vs, .inl (rd_ex r1.ext g1)⟩, ?_⟩
        have h2 : Gs X W B ca1 Hf1 ρ σ (ret xs cs1) _ := h1
        refine (h2.ret_ r1) _ fun B2 ca2 ρ2 cs2 Hf2 σ2 H2 i n2 r2 hi => ?_
        have g3 := rd_ex (fun a o h => r2.ext a o (n2.ex a o h)) g1
        refine ⟨fun e => ⟨vs, .inl g3, by rw [dps_len g2]; omega⟩, fun hi' => ?_⟩
        have hx : xs[i]? = some xs[i] := by simp [hi']
        obtain ⟨w, e1, e2⟩ := dps_get g2 hx
        refine ⟨⟨vs, w, .inl g3, e1⟩, fun x H3 y => ?_⟩
        obtain ⟨rfl, y⟩ := y
        have y1 := y vs (.inl g3)
        rw [e1] at y1
        cases y1
        exact ⟨Hf2, Nx.refl, r2, xs[i], hx, dp_ex n2.ex e2⟩
    | tuple xs =>
      have hv' : Dd Hf1 v (.tuple xs) := hv
      cases hv' with
      | tup g1 g2 =>
        rename_i l vs
        replace g1 : Rd Hf1 l (.tup vs) := g1.rd
        refine .inr (.inl ⟨l, rfl, ⟨vs, .inl (rd_ex r1.ext g1)⟩, ?_⟩)
        have h2 : Gs X W B ca1 Hf1 ρ σ (ret xs cs1) _ := h1
        refine (h2.ret_ r1) _ fun B2 ca2 ρ2 cs2 Hf2 σ2 H2 i n2 r2 hi => ?_
        have g3 := rd_ex (fun a o h => r2.ext a o (n2.ex a o h)) g1
        refine ⟨fun e => ⟨vs, .inl g3, by rw [dps_len g2]; omega⟩, fun hi' => ?_⟩
        have hx : xs[i]? = some xs[i] := by simp [hi']
        obtain ⟨w, e1, e2⟩ := dps_get g2 hx
        refine ⟨⟨vs, w, .inl g3, e1⟩, fun x H3 y => ?_⟩
        obtain ⟨rfl, y⟩ := y
        have y1 := y vs (.inl g3)
        rw [e1] at y1
        cases y1
        exact ⟨Hf2, Nx.refl, r2, xs[i], hx, dp_ex n2.ex e2⟩
    | str x =>
      have hv' : Dd Hf1 v (.str x) := hv
      cases hv'
      refine .inr (.inr ⟨x, rfl, ?_⟩)
      have h2 : Gs X W B ca1 Hf1 ρ σ (ret (x.cps.toList.map chD) cs1) _ := h1
      refine (h2.ret_ r1) _ fun B2 ca2 ρ2 cs2 Hf2 σ2 H2 i n2 r2 hi => ⟨fun e => ?_, fun hi' => ?_⟩
      · subst e
        simp [Its]
      · rw [List.length_map, Array.length_toList] at hi'
        refine ⟨hi', fun y H3 q => ?_⟩
        obtain ⟨rfl, c, e1, rfl⟩ := q
        refine ⟨Hf2, Nx.refl, r2, chD c, ?_, .str _⟩
        rw [List.getElem?_map, Array.getElem?_toList, e1]; rfl
    | _ => exact h1.elim
  | _ => exact h1.elim
end
end Dn

set_option Elab.async false
set_option linter.all false
set_option maxRecDepth 100000
set_option maxHeartbeats 1000000
namespace Dn
open PySem L2
/-- the slot of the exception's name is forgotten; an error of the suite is none -/
def clr (i : Nat) : Out → Out
  | .nx ρ cs => .nx (ρ.set i .no) cs
  | .bk ρ cs => .bk (ρ.set i .no) cs
  | .ct ρ cs => .ct (ρ.set i .no) cs
  | .rt r cs => .rt r cs
  | _ => .no
open Classical in
section
variable {X : Cx} {W : WX}
end
section
variable {X : Cx} {a D : Addr} {oe : Obj} {pn : List (Addr × Obj)}
end
def strG : List D → Option D
  | [.int i] => if i.natAbs.log2 < 1920 then some (.str (toString i)) else none
  | [.str x] => some (.str x)
  | _ => none
end Dn

set_option Elab.async false
set_option linter.all false
set_option maxRecDepth 100000
set_option maxHeartbeats 4000000
namespace Dn
open PySem L2
open AutoSeq1 (wpAny_loadPart')
theorem tupSame (l : Addr) (items : Array Value) (n : Nat) (dd : Option Addr) (sl : Array (Option Value)) (x : Int) (u : Tok) (c0 : (decide (x < -(2 ^ 63)) || decide (x ≥ 2 ^ 63)) = false) (c1 : (items.isEmpty || x == 1) = true) :
    Meets (Builtin.«tuple.__mul__» ⟨[.ref l, .int x u], []⟩) (fun _ R s => s.heap.get? l = some { cls := .type "tuple", dict := dd, data := .seq items n, slots := sl } ∧ R (.ok (.ret (Value.ref l))) s) :=
  .of_wp fun prog w A R s h => by
    obtain ⟨hp, g, d, tk, os⟩ := s
    obtain ⟨hl, h⟩ := h
    have f1 := AutoSeq1.idx_int
    wp_walk using wpAny_loadPart' hl
    repeat (first
      | (refine wpAny_ite_false (decide_eq_false (by rw [c0]; exact Bool.false_ne_true)) ?_; wp_walk using wpAny_loadPart' hl)
      | (refine wpAny_ite_true (decide_eq_true c1) ?_; wp_walk using wpAny_loadPart' hl))
    exact ⟨_, rfl, h⟩
theorem tupNone (l : Addr) (items : Array Value) (n : Nat) (dd : Option Addr) (sl : Array (Option Value)) (x : Int) (u : Tok) (c0 : (decide (x < -(2 ^ 63)) || decide (x ≥ 2 ^ 63)) = false) (c1 : (items.isEmpty || x == 1) = false) (c2 : (decide (x ≤ 0) || items.isEmpty) = true) :
    Meets (Builtin.«tuple.__mul__» ⟨[.ref l, .int x u], []⟩) (fun _ R s => s.heap.get? l = some { cls := .type "tuple", dict := dd, data := .seq items n, slots := sl } ∧
      R (.ok (.ret (Value.ref s.heap.objs.size))) { s with heap := s.heap.push { cls := Value.type "tuple", data := Data.seq #[] }, toks := s.toks }) :=
  .of_wp fun prog w A R s h => by
    obtain ⟨hp, g, d, tk, os⟩ := s
    obtain ⟨hl, h⟩ := h
    have f1 := AutoSeq1.idx_int
    wp_walk using wpAny_loadPart' hl
    repeat (first
      | (refine wpAny_ite_false (decide_eq_false (by rw [c0]; exact Bool.false_ne_true)) ?_; wp_walk using wpAny_loadPart' hl)
      | (refine wpAny_ite_false (decide_eq_false (by rw [c1]; exact Bool.false_ne_true)) ?_; wp_walk using wpAny_loadPart' hl)
      | (refine wpAny_ite_true (decide_eq_true c2) ?_; wp_walk using wpAny_loadPart' hl))
    exact ⟨_, rfl, h⟩
def mulE (a b : D) : Option D := match a, b with
  | .list xs, .int k => if -1000000000 ≤ k ∧ k ≤ 1000000000 ∧ xs.length * k.toNat ≤ sizeLine then some (.list (List.replicate k.toNat xs).flatten) else none
  | .tuple xs, .int k => if -1000000000 ≤ k ∧ k ≤ 1000000000 ∧ xs.length * k.toNat ≤ 1000000 then some (.tuple (List.replicate k.toNat xs).flatten) else none
  | a, b => mulD a b
theorem dps_rep {H : Hp} {vs : List V} {ds : List D} (h : Dds H vs ds) : ∀ k : Nat, Dds H (List.replicate k vs).flatten (List.replicate k ds).flatten
  | 0 => .nil
  | k + 1 => by
    rw [List.replicate_succ, List.replicate_succ, List.flatten_cons, List.flatten_cons]
    exact dps_app h (dps_rep h k)
theorem rep_len {α : Type} (k : Nat) (l : List α) : (List.replicate k l).flatten.length = l.length * k := by
  induction k with
  | zero => simp
  | succ k ih => rw [List.replicate_succ, List.flatten_cons, List.length_append, ih, Nat.mul_succ]; omega
section
variable {X : Cx}
theorem mulE_ok : OpR X (binaryOp .Mult) (rD mulE) := by
  intro pins s σ H x y v u Q I rx ry h
  obtain ⟨Hf, da, db, d, e, ex, ha, hb, q⟩ := h
  unfold mulE at e
  split at e
  · rename_i ds k
    split at e
    · rename_i hz
      obtain ⟨k1, k2, k3⟩ := hz
      cases e
      obtain ⟨l, vs, rfl, h1, h2⟩ := ha.lst
      have := hb.int_; subst this
      have l1 := dps_len h2
      cases rx
      obtain ⟨t, rfl⟩ := ry
      obtain ⟨z, its, n, r, hl, e⟩ := Inv.rdl I h1
      have hlen : its.toArray.size * k.toNat ≤ sizeLine := by rw [List.size_toArray, ← hl, l1]; exact k3
      have c1 : ¬ its.toArray.size * k.toNat > (2 ^ 63 - 1) / 8 := by
        have : (sizeLine : Nat) ≤ (2 ^ 63 - 1) / 8 := by decide
        omega
      have c2 : ¬ (!Builtin.List.listFitsIndex k) = true := by
        rw [fitsIndex_both (by omega) (by omega)]
        exact Bool.false_ne_true
      have c3 : ¬ Builtin.List.listTooLong (its.toArray.size * k.toNat) = true := by
        rw [notLongL hlen]
        exact Bool.false_ne_true
      have c4 : List.foldl (fun x1 x2 => x1 ++ x2) #[] (List.replicate (if its.toArray.isEmpty = true then 0 else k.toNat) its.toArray) = (List.replicate k.toNat its).flatten.toArray := by
        rw [size_rep]
        cases its with
        | nil => simp
        | cons a r' => rw [if_neg (by simp)]
      refine wpAny_binaryOp_repeat_ref (T := "list") (U := "int") (by decide) ⟨_, e, rfl⟩ (fun s' => typeIs_int s' k t) noFill_list_mul F.fills_int_mul F.slot_int_rmul repeat_list F.slot_int_index.lookup
        (call_meets F.slot_int_rmul (typeIs_int s k t) F.entry_int_rmul (F.args_int_rmul_2 _ _) (int___rmul___int_list k t l its.toArray n)
          ⟨e, rfl, ⟨_, e, rfl⟩, call_meets F.slot_list_mul ⟨_, e, rfl⟩ F.entry_list_mul (F.args_list_mul_2 _ _) (AutoListH.list___mul___list_int_3 l its.toArray n k t c2 c1 c3) ⟨e, ?_⟩⟩)
      rw [c4]
      have g := Gw.new (o := .lst (List.replicate k.toNat vs).flatten) ex I.fresh
      exact ⟨.ref _, _, I.lnew (t' := s.toks) (r.rep k.toNat) (by rw [rep_len, l1]; exact k3), rfl, q _ _ _ g (.lst (.inl upd_same) (dps_ex g.ex (dps_rep h2 _)))⟩
    · cases e
  · rename_i ds k
    split at e
    · rename_i hz
      obtain ⟨k1, k2, k3⟩ := hz
      cases e
      obtain ⟨l, vs, rfl, h1, h2⟩ := ha.tup
      have := hb.int_; subst this
      have l1 := dps_len h2
      cases rx
      obtain ⟨t, rfl⟩ := ry
      obtain ⟨its, r, ⟨⟨cls, dd, data, sl⟩, ho, hc, n, hd⟩, hs⟩ := I.tuple (.inl h1)
      simp only at hc hd
      subst hc hd
      have hle : its.length = vs.length := r.length.symm
      have c0 : (decide (k < -(2 ^ 63)) || decide (k ≥ 2 ^ 63)) = false := by
        rw [decide_eq_false (by omega), decide_eq_false (by omega)] <;> rfl
      have road : ∀ {Q' : Value → Shared → Prop}, wpAny (model X.prog X.w) X.A (call (.builtin "tuple.__mul__") [.ref l, .int k t]) Q' X.xe s → wpAny (model X.prog X.w) X.A (binaryOp .Mult (.ref l) (.int k t)) Q' X.xe s := fun {Q'} hh =>
        wpAny_binaryOp_repeat_ref (T := "tuple") (U := "int") (by decide) ⟨_, ho, rfl⟩ (fun s' => typeIs_int s' k t) noFill_tuple_mul F.fills_int_mul F.slot_int_rmul repeat_tuple F.slot_int_index.lookup
          (call_meets F.slot_int_rmul (typeIs_int s k t) F.entry_int_rmul (F.args_int_rmul_2 _ _) (int_rmul_tuple k t l its.toArray n dd sl) ⟨ho, rfl, ⟨_, ho, rfl⟩, hh⟩)
      refine road ?_
      by_cases hsame : (its.toArray.isEmpty || k == 1) = true
      · refine call_meets F.slot_tuple_mul ⟨_, ho, rfl⟩ F.entry_tuple_mul (F.args_tuple_mul_2 _ _) (tupSame l its.toArray n dd sl k t c0 hsame) ⟨ho, ?_⟩
        refine ⟨.ref l, H, I, rfl, q _ _ _ (Gw.refl ex) ?_⟩
        have same : (List.replicate k.toNat ds).flatten = ds := by
          rcases Bool.or_eq_true_iff.mp hsame with z | z
          · have e0 : its = [] := by
              cases its with
              | nil => rfl
              | cons a b => simp at z
            subst e0
            have : ds = [] := List.length_eq_zero_iff.mp (by rw [← l1, ← hle]; rfl)
            subst this
            simp
          · have : k = 1 := by simpa using z
            subst this
            simp
        rw [same]
        exact ha.flat fun _ z => nomatch z
      · have c1 : (its.toArray.isEmpty || k == 1) = false := by simpa using hsame
        by_cases hnone : (decide (k ≤ 0) || its.toArray.isEmpty) = true
        · refine call_meets F.slot_tuple_mul ⟨_, ho, rfl⟩ F.entry_tuple_mul (F.args_tuple_mul_2 _ _) (tupNone l its.toArray n dd sl k t c0 c1 hnone) ⟨ho, ?_⟩
          have k0 : k ≤ 0 := by
            rcases Bool.or_eq_true_iff.mp hnone with z | z
            · exact of_decide_eq_true z
            · rw [z] at c1; simp at c1
          have e0 : k.toNat = 0 := by omega
          rw [e0] at q
          have g := Gw.new (o := .frz { cls := .type "tuple", data := .seq #[] } (.tup [])) ex (I.hok.fresh (Nat.le_refl _))
          exact ⟨.ref s.heap.objs.size, _, I.laid (t' := s.toks) (o := .frz _ (.tup [])) (fun b ob q => Heap.get?_push_of_some _ q) (Nat.le_refl _) ⟨Heap.get?_push_size _ rfl, Nat.zero_le _, [], .nil, PyProof.Rows.IsTup.new _ _⟩, rfl, q _ _ _ g (.tup ⟨_, upd_same, rfl⟩ .nil)⟩
        · have c2 : (decide (k ≤ 0) || its.toArray.isEmpty) = false := by simpa using hnone
          have kp : 0 < k := by
            have := (Bool.or_eq_false_iff.mp c2).1
            have := of_decide_eq_false this
            omega
          have km : (k.toNat : Int) = k := by omega
          have hm : ((its.toArray.size : Nat) : Int) * k ≤ 1000000 := by
            have k4 : ((ds.length * k.toNat : Nat) : Int) ≤ 1000000 := Int.ofNat_le.mpr k3
            rw [Int.natCast_mul, km] at k4
            rw [List.size_toArray, hle, l1]
            exact k4
          have flen : (List.replicate k.toNat its).flatten.length ≤ sizeLine := by
            rw [rep_len, hle, l1, sizeLine_eq]
            omega
          have c4 : Builtin.Tuple.tupleTooMany (((its.toArray.size : Nat) : Int) * k) = false := by
            unfold Builtin.Tuple.tupleTooMany
            rw [sizeLine_eq]
            exact decide_eq_false (by omega)
          refine call_meets F.slot_tuple_mul ⟨_, ho, rfl⟩ F.entry_tuple_mul (F.args_tuple_mul_2 _ _) (tuple_mulW l its.toArray n dd sl k t c0 c1 c2 (by omega) c4 (by rw [size_rep, List.size_toArray]; exact flen)) ⟨ho, ?_⟩
          rw [size_rep]
          refine ⟨.ref s.heap.objs.size, _, I.laid (t' := s.toks) (o := .frz _ (.tup (List.replicate k.toNat vs).flatten)) (fun b ob q => Heap.get?_push_of_some _ q) (Nat.le_refl _) ⟨Heap.get?_push_size _ rfl, by rw [rep_len, l1, sizeLine_eq]; omega, _, r.rep k.toNat, PyProof.Rows.IsTup.new _ _⟩, rfl, ?_⟩
          have g := fun o : Obj => Gw.new (o := .frz o (.tup (List.replicate k.toNat vs).flatten)) ex (I.hok.fresh (Nat.le_refl _))
          exact q _ _ _ (g _) (.tup ⟨_, upd_same, rfl⟩ (dps_ex (g _).ex (dps_rep h2 _)))
    · cases e
  · exact mul_ok pins s σ H x y v u Q I rx ry ⟨Hf, da, db, d, e, ex, ha, hb, q⟩
end
end Dn

set_option Elab.async false
set_option linter.all false
set_option maxRecDepth 100000
set_option maxHeartbeats 4000000
namespace Dn
open PySem L2
open PySem.Spec PyProof.Rows
abbrev leS (a b : Str) : Prop := ltCps b.cps.toList a.cps.toList = false
theorem leS_iff (a b : Str) : leS a b ↔ ¬ b.cps.toList < a.cps.toList := by
  unfold leS
  rw [ltCps_eq]
  exact decide_eq_false_iff_not
theorem leS_trans {a b c : Str} (h : leS a b) (k : leS b c) : leS a c := by
  rw [leS_iff] at *
  have h' : a.cps.toList ≤ b.cps.toList := h
  have k' : b.cps.toList ≤ c.cps.toList := k
  exact List.le_trans h' k'
theorem leS_total (a b : Str) : leS a b ∨ leS b a := by
  rw [leS_iff, leS_iff]
  by_cases h : b.cps.toList < a.cps.toList
  · exact .inr (List.lt_asymm h)
  · exact .inl h
theorem leS_antisymm {a b : Str} (h : leS a b) (k : leS b a) : a = b := by
  rw [leS_iff] at *
  have h' : a.cps.toList ≤ b.cps.toList := h
  have k' : b.cps.toList ≤ a.cps.toList := k
  have e : a.cps.toList = b.cps.toList := List.le_antisymm h' k'
  obtain ⟨a⟩ := a
  obtain ⟨b⟩ := b
  simp only at e
  rw [Array.toList_inj.mp e]
def insT (x : Str) : List Str → List Str
  | [] => [x]
  | y :: r => if ltCps y.cps.toList x.cps.toList = true then y :: insT x r else x :: y :: r
def sortT : List Str → List Str
  | [] => []
  | x :: r => insT x (sortT r)
theorem insT_perm (x : Str) : ∀ l, (insT x l).Perm (x :: l)
  | [] => .refl _
  | y :: r => by
    unfold insT
    split
    · exact ((insT_perm x r).cons y).trans (.swap _ _ _)
    · exact .refl _
theorem sortT_perm : ∀ l, (sortT l).Perm l
  | [] => .refl _
  | x :: r => (insT_perm x _).trans ((sortT_perm r).cons x)
theorem insT_up (x : Str) : ∀ l : List Str, l.Pairwise leS → (insT x l).Pairwise leS
  | [], _ => by simp [insT]
  | y :: r, h => by
    obtain ⟨h1, h2⟩ := List.pairwise_cons.mp h
    unfold insT
    split
    · rename_i c
      refine List.pairwise_cons.mpr ⟨fun z hz => ?_, insT_up x r h2⟩
      rcases List.mem_cons.mp ((insT_perm x r).mem_iff.mp hz) with rfl | hz
      · rcases leS_total y z with q | q
        · exact q
        · unfold leS at q; rw [c] at q; cases q
      · exact h1 z hz
    · rename_i c
      have c' : leS x y := by unfold leS; simpa using c
      refine List.pairwise_cons.mpr ⟨fun z hz => ?_, h⟩
      rcases List.mem_cons.mp hz with rfl | hz
      · exact c'
      · exact leS_trans c' (h1 z hz)
theorem sortT_up : ∀ l, (sortT l).Pairwise leS
  | [] => .nil
  | x :: r => insT_up x _ (sortT_up r)
theorem up_of_rising : ∀ (p : Str) (l : List Str), risingS p l = true → (p :: l).Pairwise leS
  | p, [], _ => by simp
  | p, x :: r, h => by
    have h' : (!ltCps x.cps.toList p.cps.toList && risingS x r) = true := h
    rw [Bool.and_eq_true] at h'
    have c : leS p x := by
      have := h'.1
      unfold leS
      simpa using this
    have ih := up_of_rising x r h'.2
    refine List.pairwise_cons.mpr ⟨fun z hz => ?_, ih⟩
    rcases List.mem_cons.mp hz with rfl | hz
    · exact c
    · exact leS_trans c ((List.pairwise_cons.mp ih).1 z hz)
theorem up_of_sortedS : ∀ l : List Str, sortedS l = true → l.Pairwise leS
  | [], _ => .nil
  | x :: r, h => up_of_rising x r h
theorem eq_sortT {l l' : List Str} (hp : l'.Perm l) (hs : l'.Pairwise leS) : l' = sortT l :=
  List.Perm.eq_of_pairwise (fun _ _ _ _ a b => leS_antisymm a b) hs (sortT_up l) (hp.trans (sortT_perm l).symm)
def sortKT : List Key → Option (List Str)
  | [] => some []
  | .inr x :: r => (sortKT r).map (x :: ·)
  | _ => none
def sortKI : List Key → Option (List Int)
  | [] => some []
  | .inl x :: r => (sortKI r).map (x :: ·)
  | _ => none
theorem sortKT_eq : ∀ {ks : List Key} {xs : List Str}, sortKT ks = some xs → ks = xs.map Sum.inr
  | [], xs, h => by cases h; rfl
  | .inl i :: r, xs, h => by cases h
  | .inr x :: r, xs, h => by
    unfold sortKT at h
    cases e : sortKT r with
    | none => rw [e] at h; cases h
    | some ys => rw [e] at h; cases h; rw [sortKT_eq e]; rfl
theorem sortKI_eq : ∀ {ks : List Key} {xs : List Int}, sortKI ks = some xs → ks = xs.map Sum.inl
  | [], xs, h => by cases h; rfl
  | .inr i :: r, xs, h => by cases h
  | .inl x :: r, xs, h => by
    unfold sortKI at h
    cases e : sortKI r with
    | none => rw [e] at h; cases h
    | some ys => rw [e] at h; cases h; rw [sortKI_eq e]; rfl
theorem strsAre_keys : ∀ {vs : List Value} {ks : List Key}, (∀ v ∈ vs, ∃ k, keyIs k v = true) → vs.map kvV = ks → ∀ {xs : List Str}, ks = xs.map Sum.inr → StrsAre vs xs
  | [], _, _, e, xs, h => by
    subst e
    cases xs with
    | nil => exact .nil
    | cons _ _ => cases h
  | v :: vs, _, g, e, xs, h => by
    subst e
    cases xs with
    | nil => cases h
    | cons x xs =>
      rw [List.map_cons, List.map_cons] at h
      injection h with h1 h2
      obtain ⟨k, hk⟩ := g v List.mem_cons_self
      have q := kvV_self hk
      rw [h1] at q
      subst q
      rcases keyIs_shape hk with ⟨i, t, z, _⟩ | ⟨y, t, z, rfl⟩
      · cases z
      · injection z with z
        subst z
        exact .cons x t (strsAre_keys (fun u hu => g u (List.mem_cons_of_mem _ hu)) rfl h2)
theorem intsAre_keys : ∀ {vs : List Value} {ks : List Key}, (∀ v ∈ vs, ∃ k, keyIs k v = true) → vs.map kvV = ks → ∀ {xs : List Int}, ks = xs.map Sum.inl → IntsAre vs xs
  | [], _, _, e, xs, h => by
    subst e
    cases xs with
    | nil => exact .nil
    | cons _ _ => cases h
  | v :: vs, _, g, e, xs, h => by
    subst e
    cases xs with
    | nil => cases h
    | cons x xs =>
      rw [List.map_cons, List.map_cons] at h
      injection h with h1 h2
      obtain ⟨k, hk⟩ := g v List.mem_cons_self
      have q := kvV_self hk
      rw [h1] at q
      subst q
      rcases keyIs_shape hk with ⟨y, t, z, rfl⟩ | ⟨i, t, z, _⟩
      · injection z with z
        subst z
        exact .cons x t (intsAre_keys (fun u hu => g u (List.mem_cons_of_mem _ hu)) rfl h2)
      · cases z
theorem perm_map_inr {ks : List Key} {xs : List Str} (p : ks.Perm (xs.map Sum.inr)) : ∃ ys : List Str, ks = ys.map Sum.inr ∧ ys.Perm xs := by
  have hall : ∀ k ∈ ks, ∃ x, k = Sum.inr x := fun k hk => by
    obtain ⟨x, _, rfl⟩ := List.mem_map.mp (p.mem_iff.mp hk)
    exact ⟨x, rfl⟩
  let f : Key → Str := fun k => match k with
    | .inr x => x
    | _ => ⟨#[]⟩
  refine ⟨ks.map f, ?_, ?_⟩
  · rw [List.map_map]
    conv => lhs; rw [← List.map_id ks]
    refine List.map_congr_left fun k hk => ?_
    obtain ⟨x, rfl⟩ := hall k hk
    rfl
  · have q := p.map f
    rw [List.map_map] at q
    rw [show (f ∘ Sum.inr) = id from rfl, List.map_id] at q
    exact q
theorem perm_map_inl {ks : List Key} {xs : List Int} (p : ks.Perm (xs.map Sum.inl)) : ∃ ys : List Int, ks = ys.map Sum.inl ∧ ys.Perm xs := by
  have hall : ∀ k ∈ ks, ∃ x, k = Sum.inl x := fun k hk => by
    obtain ⟨x, _, rfl⟩ := List.mem_map.mp (p.mem_iff.mp hk)
    exact ⟨x, rfl⟩
  let f : Key → Int := fun k => match k with
    | .inl x => x
    | _ => 0
  refine ⟨ks.map f, ?_, ?_⟩
  · rw [List.map_map]
    conv => lhs; rw [← List.map_id ks]
    refine List.map_congr_left fun k hk => ?_
    obtain ⟨x, rfl⟩ := hall k hk
    rfl
  · have q := p.map f
    rw [List.map_map] at q
    rw [show (f ∘ Sum.inl) = id from rfl, List.map_id] at q
    exact q
section
variable {P : Program} {w : World} {A : Around} {E : Value → Shared → Prop} {s : Shared} {a : Addr} {ks : List Key}
theorem sortX {Q : Value → Shared → Prop} (R : SetX w s.heap a ks) (hh : A.handled = none)
    (hQ : ∀ s' p (out : Array Value) (c : Nat), (∀ b o, s.heap.get? b = some o → s'.heap.get? b = some o) → s'.gens = s.gens → s'.os = s.os → s.heap.objs.size ≤ p →
      s'.heap.get? p = some (seqObj "list" out c) → (∀ xs, ks = xs.map Sum.inr → StrsAre out.toList (sortT xs)) → (∀ xs, ks = xs.map Sum.inl → IntsAre out.toList (PySem.W.sortI xs)) → Q (.ref p) s')
    (hk : (∃ xs : List Str, ks = xs.map Sum.inr) ∨ (∃ xs : List Int, ks = xs.map Sum.inl)) :
    wpAny (model P w) A (call (.builtin "sorted") [.ref a]) Q E s := by
  obtain ⟨o, es, ep, t, ho, hex, hd, g, nd, pk, hb, hf, hr, hl⟩ := R
  refine Calls.call_function_entry kind_sorted plain_sorted entry_sorted (args_sorted1 _) ?_
  unfold Builtin.«sorted»
  refine wpAny_bind (m := checkCount "sorted" 1 1 _) (wpAny_pure ?_)
  refine wpAny_bind (collect_set (A := A.in1) hh ⟨o, ho, hex.1, hd⟩ hf hb hr hl fun s1 vs k1 hz e1 e2 pm => ?_)
  have hgood : ∀ v ∈ vs, ∃ k, keyIs k v = true := fun v hv => by
    obtain ⟨e, he, q⟩ := List.mem_map.mp (pm.mem_iff.mp hv)
    obtain ⟨k, h1, _⟩ := g e he
    exact ⟨k, q ▸ h1⟩
  have hkp : (vs.map kvV).Perm ks := by
    have q := pm.map kvV
    rw [List.map_map] at q
    exact q.trans pk
  have hvl : vs.length < scanBound := by
    have q : vs.length = es.size := by rw [pm.length_eq, List.length_map, Array.length_toList]
    rw [q]; exact hb
  have sb : scanBound = 4096 := rfl
  have hvz : vs.length ≤ sizeLine := by rw [sizeLine_eq]; omega
  refine wpAny_bind (wpAny_newList ?_ hvz)
  have hoL : (s1.heap.push (seqObj "list" vs.toArray 0)).get? s1.heap.objs.size = some (seqObj "list" vs.toArray 0) := Heap.get?_push_size _ rfl
  have keep : ∀ (out : Array Value) b u, s.heap.get? b = some u → (sortedHeap (s1.heap.push (seqObj "list" vs.toArray 0)) s1.heap.objs.size vs out).get? b = some u := fun out b u e => by
    have q := k1 b u e
    have hlt := Heap.lt_size q
    rw [sortedHeap_old (Nat.ne_of_lt hlt) (by rw [size_push']; exact Nat.lt_succ_of_lt hlt)]
    exact Heap.get?_push_of_some _ q
  rcases hk with ⟨xs, rfl⟩ | ⟨xs, rfl⟩
  · obtain ⟨ys, ey, py⟩ := perm_map_inr hkp
    have hS : StrsAre vs ys := strsAre_keys hgood rfl ey
    refine wpAny_bind (wpAny_holding (wpAny_call_entry slot_list_sort ⟨_, hoL, rfl⟩ entry_list_sort
      (list_sort_treeKAny strKind_oneLt hoL hS.keysOf (fun v₁ v₂ rest e => keyKind_strs (by rw [← e]; exact hS)) hvz fun st' hp hs => ⟨_, rfl, ?_⟩) (args_list_sort _)))
    obtain ⟨zs, g1, g2, g3⟩ := sorted_out_str hS hp hs
    have ez : zs = sortT xs := eq_sortT (g2.trans py) (up_of_sortedS zs g3)
    subst ez
    obtain ⟨c, hc⟩ := sortedHeap_at (vs := vs) (out := (arrOf st').map (·.2)) hoL
    refine wpAny_pure ⟨_, rfl, hQ _ s1.heap.objs.size _ c (keep _) e1 e2 hz hc (fun xs' e => ?_) fun xs' e => ?_⟩
    · have : xs = xs' := by
        have q := congrArg (List.map (fun k : Key => match k with | .inr x => x | _ => ⟨#[]⟩)) e
        simp only [List.map_map] at q
        simpa [Function.comp_def] using q
      subst this; exact g1
    · cases xs with
      | nil =>
        cases xs' with
        | nil =>
          have g1' : StrsAre ((arrOf st').map (·.2)).toList [] := g1
          cases h : ((arrOf st').map (·.2)).toList with
          | nil => exact .nil
          | cons _ _ => rw [h] at g1'; cases g1'
        | cons _ _ => cases e
      | cons _ _ => cases xs' <;> cases e
  · obtain ⟨ys, ey, py⟩ := perm_map_inl hkp
    have hS : IntsAre vs ys := intsAre_keys hgood rfl ey
    refine wpAny_bind (wpAny_holding (wpAny_call_entry slot_list_sort ⟨_, hoL, rfl⟩ entry_list_sort
      (list_sort_treeAny hoL hS hvz fun out zs g1 g2 g3 => ⟨_, rfl, ?_⟩) (args_list_sort _)))
    have ez : zs = PySem.W.sortI xs := PySem.W.eq_sortI (g2.trans py) g3
    subst ez
    obtain ⟨c, hc⟩ := sortedHeap_at (vs := vs) (out := out) hoL
    refine wpAny_pure ⟨_, rfl, hQ _ s1.heap.objs.size _ c (keep _) e1 e2 hz hc (fun xs' e => ?_) fun xs' e => ?_⟩
    · cases xs with
      | nil =>
        cases xs' with
        | nil =>
          have g1' : IntsAre out.toList [] := g1
          cases h : out.toList with
          | nil => exact .nil
          | cons _ _ => rw [h] at g1'; cases g1'
        | cons _ _ => cases e
      | cons _ _ => cases xs' <;> cases e
    · have : xs = xs' := by
        have q := congrArg (List.map (fun k : Key => match k with | .inl x => x | _ => 0)) e
        simp only [List.map_map] at q
        simpa [Function.comp_def] using q
      subst this; exact g1
end
def intsD : List D → Option (List Int)
  | [] => some []
  | .int i :: r => (intsD r).map (i :: ·)
  | _ => none
theorem intsD_vs {Hf : Hp} : ∀ {vs : List V} {xs : List D} {ns : List Int}, Dds Hf vs xs → intsD xs = some ns → vs = ns.map V.int
  | _, _, ns, .nil, e => by
    have : [] = ns := Option.some.inj e
    subst this; rfl
  | _, _, ns, .cons (d := d) (ds := ds) h t, e => by
    cases d with
    | int i =>
      cases h
      cases z : intsD ds with
      | none => simp [intsD, z] at e
      | some r =>
        simp [intsD, z] at e
        subst e
        rw [intsD_vs t z]; rfl
    | _ => cases e
theorem dds_ints {Hf : Hp} : ∀ ns : List Int, Dds Hf (ns.map V.int) (ns.map PyData.int)
  | [] => .nil
  | i :: r => .cons (.int i) (dds_ints r)
theorem dds_txts {Hf : Hp} : ∀ ns : List Str, Dds Hf (ns.map V.str) (ns.map PyData.str)
  | [] => .nil
  | i :: r => .cons (.str i) (dds_txts r)
def sumG : List D → Option D
  | [.list xs] => (intsD xs).map fun ns => .int ns.sum
  | [.tuple xs] => (intsD xs).map fun ns => .int ns.sum
  | _ => none
def mostI : List Int → Int
  | [] => 0
  | [a] => a
  | a :: r => max a (mostI r)
theorem mostI_is : ∀ {ns : List Int} {m : Int}, m ∈ ns → (∀ y ∈ ns, y ≤ m) → m = mostI ns
  | [], _, h, _ => by cases h
  | [a], m, h, _ => by simpa [mostI] using h
  | a :: b :: r, m, h, k => by
    show m = max a (mostI (b :: r))
    have ka := k a List.mem_cons_self
    have kr : ∀ y ∈ b :: r, y ≤ m := fun y hy => k y (List.mem_cons_of_mem _ hy)
    have all : ∀ y ∈ b :: r, y ≤ mostI (b :: r) ∧ True := fun y hy => ⟨le_most y (b :: r) hy, trivial⟩
    have mem := most_mem (b :: r) (by simp)
    have km := kr _ mem
    rcases List.mem_cons.mp h with rfl | h
    · omega
    · have := (all m h).1
      omega
where
  le_most : ∀ (y : Int) (ns : List Int), y ∈ ns → y ≤ mostI ns
    | y, [], h => by cases h
    | y, [a], h => by have : y = a := by simpa using h
                      subst this; exact Int.le_refl _
    | y, a :: b :: r, h => by
      show y ≤ max a (mostI (b :: r))
      rcases List.mem_cons.mp h with rfl | h
      · omega
      · have := le_most y (b :: r) h
        omega
  most_mem : ∀ (ns : List Int), ns ≠ [] → mostI ns ∈ ns
    | [], h => absurd rfl h
    | [a], _ => by simp [mostI]
    | a :: b :: r, _ => by
      show max a (mostI (b :: r)) ∈ a :: b :: r
      have := most_mem (b :: r) (by simp)
      by_cases h : a ≤ mostI (b :: r)
      · rw [Int.max_eq_right h]; exact List.mem_cons_of_mem _ this
      · rw [Int.max_eq_left (by omega)]; exact List.mem_cons_self
def maxLG : List D → Option D
  | [.list xs] => match intsD xs with
    | some ns => if 0 < ns.length then some (.int (mostI ns)) else none
    | none => none
  | _ => none
section
open PySem.Spec PyProof.Rows
variable {prog : Program} {w : World} {A : Around} {E : Value → Shared → Prop} {s : Shared} {l : Addr} {its : List Value} {ns : List Int} {Q : Value → Shared → Prop}
theorem sumT_raw (hh : A.handled = none) (hl : s.heap.IsTuple l its.toArray) (hi : IntsAre its ns)
    (h : ∀ h' tk t', (∀ b o, s.heap.get? b = some o → h'.get? b = some o) → Q (.int ns.sum t') { s with heap := h', toks := tk }) : wpAny (model prog w) A (call (.builtin "sum") [.ref l]) Q E s := by
  obtain ⟨xs, e⟩ := hi.allInts.items
  have hn : numsOf (intItems xs).toList = ns := by rw [← e]; exact hi.numsOf
  rw [nums_intItems] at hn
  rw [e] at hl
  refine PySem.W.ktm_sumG hh hl fun h' tk t' hk => ?_
  have := h h' tk t' hk
  rw [preSum_eq, List.take_of_length_le (by simp), hn]; exact this
end
section
variable {X : Cx}
theorem sum_ok (hc : X.calm = true) : CallR X (.builtin "sum") (rCd sumG) := by
  intro pins s σ H xs us Q I r h
  obtain ⟨Hf, ds, d, e, ex, hl, q⟩ := h
  unfold sumG at e
  split at e
  · rename_i zs
    cases z : intsD zs with
    | none => rw [z] at e; cases e
    | some ns =>
      rw [z] at e
      cases e
      obtain ⟨v, rfl, h1⟩ := lvs_one hl
      obtain ⟨a, vs, rfl, g1, g2⟩ := h1.lst
      have ev := intsD_vs g2 z
      subst ev
      exact cr_sum hc pins s σ H _ us Q I r ⟨a, ns, rfl, .inl g1, q _ _ _ (Gw.refl ex) (.int _)⟩
  · rename_i zs
    cases z : intsD zs with
    | none => rw [z] at e; cases e
    | some ns =>
      rw [z] at e
      cases e
      obtain ⟨v, rfl, h1⟩ := lvs_one hl
      obtain ⟨a, vs, rfl, g1, g2⟩ := h1.tup
      have ev := intsD_vs g2 z
      subst ev
      obtain ⟨its, rv, hl2, _⟩ := I.tuple (.inl g1)
      rw [Vals.ref1 r]
      exact sumT_raw (I.ok.hd hc) hl2 rv.ints fun h' tk t' hk => ⟨.int _, H, I.kept hk, ⟨_, rfl⟩, q _ _ _ (Gw.refl ex) (.int _)⟩
  · cases e
theorem maxL_ok (hc : X.calm = true) : CallR X (.builtin "max") (rCd maxLG) := by
  intro pins s σ H xs us Q I r h
  obtain ⟨Hf, ds, d, e, ex, hl, q⟩ := h
  unfold maxLG at e
  split at e
  · rename_i zs
    split at e
    · rename_i ns z
      split at e
      · rename_i hlt
        cases e
        obtain ⟨v, rfl, h1⟩ := lvs_one hl
        obtain ⟨a, vs, rfl, g1, g2⟩ := h1.lst
        have ev := intsD_vs g2 z
        subst ev
        exact cr_max hc pins s σ H _ us Q I r ⟨a, ns, rfl, .inl g1, hlt, fun m h1 h2 => by rw [mostI_is h1 h2]; exact q _ _ _ (Gw.refl ex) (.int _)⟩
      · cases e
    · cases e
  · cases e
end
def sortK (ks : List Key) : Option (List V × List D) := match sortKI ks with
  | some ns => some ((PySem.W.sortI ns).map V.int, (PySem.W.sortI ns).map .int)
  | none => match sortKT ks with
    | some ys => some ((sortT ys).map V.str, (sortT ys).map .str)
    | none => none
theorem sortK_dds {Hf : Hp} {ks : List Key} {vs : List V} {ds : List D} (h : sortK ks = some (vs, ds)) : Dds Hf vs ds := by
  unfold sortK at h
  split at h
  · cases h; exact dds_ints _
  · split at h
    · cases h; exact dds_txts _
    · cases h
def srtSD (xs : List D) : Option D := match kysD xs with
  | some ks => if ks.length < 4000 then (sortK (fmK ks)).map fun p => .list p.2 else none
  | none => none
def sortedSetG : List D → Option D
  | [.list xs] => srtSD xs
  | [.tuple xs] => srtSD xs
  | _ => none
section
variable {X : Cx} {W : WX} {a : Expr} {f : List S → M S}
def tSrS (K : PySem.W.Frag) (ta : TE) : TE := fun σ H Q => ta σ H fun x H1 => ∃ (b : Bool) (l : Addr) (vs : List V) (ks : List Key) (q : List V × List D), x = V.ref l ∧ (if b = true then SqT K H1 l vs else SqL K H1 l vs) ∧ vs = ks.map kV ∧ ks.length + 1 < scanBound ∧ sortK (fmK ks) = some q ∧
  ∀ p, H1 p = none → Q (.ref p) (upd H1 p (.lst q.1))
theorem pe_srS {ta : TE} {p p2 q pos : Pos} (hc : X.calm = true) (hg : Gl X "sorted") (hm : X.mg "sorted" = none) (hg2 : Gl X "set") (hm2 : X.mg "set" = none) (ha : PE X a ta)
    (na : starEach [a] X.env = (false, eval a X.env) :: starEach [] X.env) : PE X (.Call (.Name "sorted" p) [.Call (.Name "set" p2) [a] [] q] [] pos) (tSrS X.K ta) := by
  refine ⟨fun pins s σ H Q I h => ?_⟩
  refine PyProof.Rows.Call_ (ld_blt I hg hm (by decide +kernel : bootBuiltins "sorted" = some (.builtin "sorted")) ?_)
  refine PyProof.Rows.callWith_builtin1 (PyProof.Rows.args_cons ?_ rfl) rfl rfl
  refine PyProof.Rows.Call_ (ld_blt I hg2 hm2 PyProof.Rows.boot_set ?_)
  refine PyProof.Rows.callWith_type1 (PyProof.Rows.args_cons (thn (ha.run pins s σ H _ I h) fun v s1 ⟨x, H1, I1, r1, q1⟩ => PyProof.Rows.args_nil ?_) na) na rfl
  obtain ⟨b, l, vs, ks, z, rfl, hq, rfl, hlt, hs, q1⟩ := q1
  cases r1
  have go : ∀ (its : List Value), Vals (ks.map kV) its → (if b = true then s1.heap.IsTuple l its.toArray else s1.heap.IsList l its.toArray) → wpAny (model X.prog X.w) X.A (call (.type "set") [Value.ref l]) (fun u s2 => wpAny (model X.prog X.w) X.A (spliced (backTo pos (starEach [] X.env))) (fun us s3 => wpAny (model X.prog X.w) X.A (call (.builtin "sorted") (u :: us)) (EP X pins σ Q) X.xe s3) X.xe s2) X.xe s1 := fun its r hit => by
    have hl : ks.length = its.toArray.size := by rw [List.size_toArray, ← r.length, List.length_map]
    refine setCallX b (I1.ok.hd hc) hit hl (fun j v k e1 e2 => vals_keys (P := X.prog) (w := X.w) r j v k (by simpa using e1) e2) hlt fun g tk hS hk => ?_
    refine PyProof.Rows.args_nil ?_
    have I2 : Inv X pins σ H1 { s1 with heap := g, toks := tk } := I1.kept fun b o e => hk b o (Heap.lt_size e) e
    have lt := fmK_le ks
    have sb : scanBound = 4096 := rfl
    have hkk : (∃ xs : List Str, fmK ks = xs.map Sum.inr) ∨ (∃ xs : List Int, fmK ks = xs.map Sum.inl) := by
      unfold sortK at hs
      split at hs
      · rename_i ns e; exact .inr ⟨ns, sortKI_eq e⟩
      · split at hs
        · rename_i ns e; exact .inl ⟨ns, sortKT_eq e⟩
        · cases hs
    refine sortX hS (I2.ok.hd hc) (fun s' p out c k1 k2 k3 k4 k5 k6 k7 => ?_) hkk
    have hn : H1 p = none := I2.hok.fresh k4
    have hv : Vals z.1 out.toList ∧ z.1.length = out.toList.length := by
      unfold sortK at hs
      split at hs
      · rename_i ns e
        cases hs
        have w := vals_of_ints (k7 ns (sortKI_eq e))
        exact ⟨w, w.length⟩
      · split at hs
        · rename_i ns e
          cases hs
          have w := vals_of_strs (k6 ns (sortKT_eq e))
          exact ⟨w, w.length⟩
        · cases hs
    have hz : z.1.length ≤ sizeLine := by
      unfold sortK at hs
      split at hs
      · rename_i ns e
        cases hs
        have e1 := congrArg List.length (sortKI_eq e)
        rw [List.length_map] at e1
        show ((PySem.W.sortI ns).map V.int).length ≤ sizeLine
        rw [List.length_map, (PySem.W.sortI_perm ns).length_eq, sizeLine_eq]
        omega
      · split at hs
        · rename_i ns e
          cases hs
          have e1 := congrArg List.length (sortKT_eq e)
          rw [List.length_map] at e1
          show ((sortT ns).map V.str).length ≤ sizeLine
          rw [List.length_map, (sortT_perm ns).length_eq, sizeLine_eq]
          omega
        · cases hs
    have J : Inv X pins σ (upd H1 p (.lst z.1)) { ({ s1 with heap := g, toks := tk } : Shared) with heap := s'.heap, gens := s'.gens, drawn := s'.drawn, toks := s'.toks } :=
      I2.call (ch := []) (Un.laid k1 k4 hn) (I2.hok.laid k1 k4 ⟨hz, out.toList, c, hv.1, k5⟩) (by rw [k2]; exact I2.bare) (fun _ q => nomatch q)
    have e : s' = { ({ s1 with heap := g, toks := tk } : Shared) with heap := s'.heap, gens := s'.gens, drawn := s'.drawn, toks := s'.toks } := by
      cases s'
      cases k3
      rfl
    rw [e]
    exact ⟨.ref p, _, J, rfl, q1 p hn⟩
  cases b with
  | false =>
    obtain ⟨its, r, pl, hz⟩ := I1.list hq
    exact go its r pl.isList
  | true =>
    obtain ⟨its, r, pl, hz⟩ := I1.tuple hq
    exact go its r pl
theorem de_sortedSet {p p2 q pos : Pos} (hm : X.mg "sorted" = none) (hm2 : X.mg "set" = none) (ha : DE X W a f) (hc : X.calm = true := by rfl) (hg : Gl X "sorted" := by rfl) (hg2 : Gl X "set" := by rfl)
    (na : starEach [a] X.env = (false, eval a X.env) :: starEach [] X.env := by rfl) : DE X W (.Call (.Name "sorted" p) [.Call (.Name "set" p2) [a] [] q] [] pos) (eCd sortedSetG (aCons f aNil)) := by
  obtain ⟨t, pr, k⟩ := ha
  refine ⟨_, pe_srS hc hg hm hg2 hm2 pr na, fun B ca ρ cs Hf σ H Q r h => ?_⟩
  refine k B ca ρ cs Hf σ H _ r (h.bind.bind.mono fun ca1 Hf1 H1 cs1 s n1 r1 h1 v hv => ?_)
  have h2 : Gs X W B ca1 Hf1 ρ σ (bnd (vwsM [s]) (fun ds => bnd (ofO (sortedSetG ds)) fun d => ret (.d d)) cs1) (fun ca' Hf' H' _ s => ∀ v, SvOk ca' Hf' s v → Q v H') := (h1.ret_ r1)
  obtain ⟨ds, e1, h3⟩ := vwsM_ h2
  obtain ⟨d, e2, h4⟩ := ofOb_ h3
  have lv := vws_ok r1 (SvsOk.cons hv .nil) e1
  have sb : scanBound = 4096 := rfl
  have main : ∀ (b : Bool) (xs : List D) (l : Addr) (vs : List V), srtSD xs = some d → (if b = true then SqT X.K H1 l vs else SqL X.K H1 l vs) → Dds Hf1 vs xs →
      ∃ (b : Bool) (l' : Addr) (vs : List V) (ks : List Key) (q : List V × List D), V.ref l = V.ref l' ∧ (if b = true then SqT X.K H1 l' vs else SqL X.K H1 l' vs) ∧ vs = ks.map kV ∧ ks.length + 1 < scanBound ∧ sortK (fmK ks) = some q ∧
        ∀ p, H1 p = none → Q (.ref p) (upd H1 p (.lst q.1)) := fun b xs l vs e hq hd => by
    unfold srtSD at e
    split at e
    · rename_i ks ek
      split at e
      · rename_i hlt
        cases es : sortK (fmK ks) with
        | none => rw [es] at e; cases e
        | some z =>
          rw [es] at e
          cases e
          refine ⟨b, l, vs, ks, z, rfl, hq, kys_vs hd ek, by omega, es, fun p hp => ?_⟩
          have g := Gw.new (o := .lst z.1) r1.ext hp
          obtain ⟨r3, n3⟩ := r1.gw g
          exact h4 ca1 _ _ n3 r3 _ (show Dd _ _ _ from .lst (.inl upd_same) (sortK_dds es))
      · cases e
    · cases e
  match ds, e2, lv with
  | [x], e2, lv =>
    cases x with
    | list xs =>
      obtain ⟨l, vs, rfl, q1, q2⟩ := lv.1.lst
      exact main false xs l vs e2 (.inl q1) q2
    | tuple xs =>
      obtain ⟨l, vs, rfl, q1, q2⟩ := lv.1.tup
      exact main true xs l vs e2 (.inl q1) q2
    | _ => cases e2
  | [], e2, lv => exact absurd e2 (by simp [sortedSetG])
  | _ :: _ :: _, e2, lv => exact absurd e2 (by simp [sortedSetG])
end
end Dn

set_option Elab.async false
set_option linter.all false
set_option maxRecDepth 100000
set_option maxHeartbeats 1000000
namespace Dn
open PySem L2
open PySem.Spec PyProof.Rows
def isSq : D → Bool
  | .list _ => true
  | .tuple _ => true
  | _ => false
mutual
theorem nd_hd : ∀ {d : D}, d.hasDict = false → ndD d = true
  | .none, _ => by unfold ndD; rfl
  | .bool _, _ => by unfold ndD; rfl
  | .int _, _ => by unfold ndD; rfl
  | .str _, _ => by unfold ndD; rfl
  | .list xs, h => by unfold ndD; exact nds_hd (by simpa [PyData.hasDict] using h)
  | .tuple xs, h => by unfold ndD; exact nds_hd (by simpa [PyData.hasDict] using h)
  | .dict _, h => by simp [PyData.hasDict] at h
theorem nds_hd : ∀ {ds : List D}, PyData.hasDictAll ds = false → ndDs ds = true
  | [], _ => by unfold ndDs; rfl
  | x :: xs, h => by
    unfold ndDs
    simp only [PyData.hasDictAll, Bool.or_eq_false_iff] at h
    rw [Bool.and_eq_true]
    exact ⟨nd_hd h.1, nds_hd h.2⟩
end
def strLG : List D → Option D
  | [d] => if isSq d = true ∧ d.showable = true ∧ d.hasDict = false ∧ d.depth ≤ 100 ∧ d.shown.length ≤ sizeLine then some (.str d.shown) else none
  | _ => none
structure FnG (P : Program) (w : World) (K : PySem.W.Frag) (mg : Str → Option Value) (base : Heap) (k : Nat) (f : Addr) (fd : FuncData) (ps : List Str) (sp : Sp) : Prop where
  len : ∀ vs H Q E, sp vs H Q E → vs.length = ps.length
  run : ∀ (A : Around) (outer : List Env) (s : Shared) (H : Hp) (args : Args) (us : List Value) (vs : List V) (Q : VK) (E : XK), A.guards = some [] → Room k A → Env0 P w K mg base A outer s H → BindsTo s fd args (ps.zip us) → Vals vs us → sp vs H Q E →
    codeAny (model P w) A (.call (.ref f) args) (CR (L2.CX P w) outer P w H s Q E) s
section
variable {P : Program} {w : World} {K : PySem.W.Frag} {mg : Str → Option Value} {base : Heap} {x qual : Str} {params : Arguments} {body : List Stmt} {scope : Scope} {dvs : List V} {kws : List (Str × V)} {f : Addr} {fd : FuncData} {N ps : List Str} {k : Nat}
theorem FnG.of {sp : Sp} (Fk : FnOk P w K mg base (L2.CX P w) k f fd ps sp) : FnG P w K mg base k f fd ps sp := ⟨Fk.len, fun A outer s H args us vs Q E _ hr => Fk.run A outer s H args us vs Q E hr⟩
/-- a def by its body, from any frame where nothing is being shown -/
theorem fnG_ok {sp : Sp} (Fd : FunD K x qual params body scope dvs kws f fd) (sc : FnScope N ps scope) (hl : ∀ vs H Q E, sp vs H Q E → vs.length = ps.length)
    (hb : ∀ (cdv : Value) (A : Around) (outer : List Env) (s : Shared) (H : Hp) (vs : List V) (Q : VK) (E : XK), A.guards = some [] → Room k (A.deeper (envOfC qual scope s.heap.objs.size f cdv)) → sp vs H Q E →
      ∃ t, PSs (cxOf (L2.CX P w) P w K mg base N qual scope f cdv A outer s H E) body t ∧ t { nx := fun _ H' => Q .non H', rt := Q } (L2.start N vs) H) :
    FnG P w K mg base (k + 1) f fd ps sp := by
  obtain ⟨oc, od, dV, kV, doc, pm, an, cdv, ct, osl, rfl, look, hcd, _, _⟩ := Fd.ex
  refine ⟨hl, fun A outer s H args us vs Q E hg hr e0 hbd rv hsp => ?_⟩
  have inK : K.In s.heap := e0.mod.kin.keeps fun b o e => (e0.bs b o e).1
  have nolim : s.heap.NoLimit := e0.mod.nolimit.keeps fun b o e => (e0.bs b o e).1
  have kinds : ∀ y ∈ ps.zip us, scope.names.lookup y.1 = some .local ∨ (scope.names.lookup y.1 = some .cell ∧ ((cellsFrom (s.heap.objs.size + 1) scope.names []).lookup y.1).isSome = true) := by
    rintro ⟨n, v⟩ hy
    refine (sc.par n (List.of_mem_zip hy).1).imp id fun q => ⟨q, ?_⟩
    exact PySem.W.cellsFrom_some _ _ _ (Or.inl q)
  apply codeAny_call_function hr.depth (inK _ _ look) rfl sc.co sc.gen rfl (PySem.W.codeRec_of inK hcd) (hbd _ _ _ _ ?_)
  apply wpAny_newFunctionEnv_cells sc.kind kinds
  rintro env rfl s1 w1
  refine ⟨nolim.keeps w1.toInCall.keep, codeAny_func ?_⟩
  obtain ⟨t, pt, qt⟩ := hb cdv A outer s H vs Q E hg (hr.deeper _) hsp
  have I0 : Inv (cxOf (L2.CX P w) P w K mg base N qual scope f cdv A outer s H E) [] (L2.start N vs) H s1 := inv_start sc hr.hd e0 (hl _ _ _ _ hsp) rv w1
  refine wpAny_mono (pt.run [] s1 (L2.start N vs) H _ I0 qt) (fun fl s2 hs => ?_) fun e s2 hs => hs
  cases fl with
  | ret u =>
    obtain ⟨v, τ, H2, J, ru, q⟩ := hs
    exact ⟨v, H2, J.os, J.bare, J.base, J.hok, ru, q⟩
  | next =>
    obtain ⟨τ, H2, J, q⟩ := hs
    exact ⟨.non, H2, J.os, J.bare, J.base, J.hok, rfl, q⟩
  | brk => exact (show False from hs.choose_spec.choose_spec.2).elim
  | cont => exact (show False from hs.choose_spec.choose_spec.2).elim
variable {F : List S → M Rv}
theorem body_run {g : G} (m : Nat) (hm : N.length = ps.length + m) {cdv : Value} {A : Around} {outer : List Env} {s : Shared} {H : Hp} {vs : List V} {Q : VK} {E : XK}
    (hd : DSs (BX P w K mg base N qual scope f cdv A outer s H E) (BW E) body g) (h : spE mg ps.length (runG m g) vs H Q E) :
    ∃ t, PSs (cxOf (L2.CX P w) P w K mg base N qual scope f cdv A outer s H E) body t ∧ t { nx := fun _ H' => Q .non H', rt := Q } (L2.start N vs) H := by
  obtain ⟨hl, B, ca, cs, Hf, ss, r, h⟩ := h
  obtain ⟨t, pt, kt⟩ := hd
  refine ⟨t, pt, ?_⟩
  have hss : ss.length = vs.length := by
    have := r.len
    rw [List.length_map] at this
    exact this.symm
  have hst : L2.start N vs = vs.map some ++ List.replicate m none := by
    unfold L2.start
    rw [hm, hl, Nat.add_sub_cancel_left]
  have r1 : Rel B ca (ss ++ List.replicate m .no) cs Hf (L2.start N vs) H := by
    rw [hst]
    refine r.slots (by simp [hss]) fun i sl e => ?_
    by_cases hi : i < ss.length
    · rw [List.getElem?_append_left hi] at e
      rcases r.sl i sl e with z | ⟨v, h1, h2⟩
      · exact .inl z
      · exact .inr ⟨v, by rw [List.getElem?_append_left (by simp; omega)]; exact h1, h2⟩
    · rw [List.getElem?_append_right (by omega), List.getElem?_replicate] at e
      split at e
      · cases e; exact .inl rfl
      · cases e
  refine kt B ca _ cs Hf _ H _ r1 ?_
  have hlc := r.lenc
  unfold runG at h
  cases e : g (ss ++ List.replicate m .no) cs with
  | nx ρ' cs' =>
    rw [e] at h
    by_cases c : okc cs.length cs' = true
    · simp only [fin, if_pos c] at h
      exact fun ca' Hf' σ' H' n r' => h Hf' H' .non n.ex (r.cut n r' c) .non
    · simp only [fin, if_neg c] at h <;> exact h.elim
  | rt rv cs' =>
    rw [e] at h
    by_cases c : okc cs.length cs' = true
    · intro ca' Hf' ρ' σ' H' v n r' hv
      have rc := r.cut n r' c
      cases rv with
      | d x =>
        simp only [fin, if_pos c] at h
        exact h Hf' H' v n.ex rc (hv.cut (cs := cs) n fun j z => nomatch z)
      | own o =>
        simp only [fin, if_pos c] at h
        exact h Hf' H' v n.ex rc (hv.cut (cs := cs) n fun j z => nomatch z)
      | pr x xs =>
        simp only [fin, if_pos c] at h
        exact h Hf' H' v n.ex rc (hv.cut (cs := cs) n fun j z => nomatch z)
      | cp j x =>
        by_cases hj : j < cs.length
        · simp only [fin, if_pos c, if_pos hj] at h
        · obtain ⟨a, b, w, rfl, h1, hb, hw, ha1, ha2, ha3⟩ := hv
          have hj' : j < cs'.length := by rw [← r'.lenc]; exact (List.getElem?_eq_some_iff.mp hb).1
          have mb : b ∈ ca' := List.mem_of_getElem? hb
          simp only [fin, if_pos c, if_neg hj] at h
          cases ej : cs'[j]? with
          | none => simp only [ej] at h
          | some o =>
            cases o with
            | lst xs =>
              simp only [ej] at h
              obtain ⟨b2, g1, us, g2, g3⟩ := r'.cells j _ ej
              rw [hb] at g1; cases g1
              have nb : b ∉ ca := fun z => by
                obtain ⟨t, ht⟩ := n.pre
                obtain ⟨i, hi, ei⟩ := List.mem_iff_getElem.mp z
                have e3 : ca'[i]? = some b := by rw [← ht, List.getElem?_append_left hi]; simp [hi, ei]
                have := nd_ix r'.nd hb e3
                have := rc.lenc
                have := r.lenc
                omega
              have bb : B b = none := r'.bn mb (fun _ _ z => by rw [g2] at z; cases z)
              have nab : a ≠ b := fun z => ha2 (z ▸ mb)
              obtain ⟨rc2, x2⟩ := rc.freeze g2 (r'.off b mb) nb bb
              obtain ⟨rc3, x3⟩ := rc2.freeze (p := a) h1 (by rw [upd_ne nab]; exact ha1) (fun z => ha2 (n.pre.subset z)) ha3
              refine h _ H' _ (fun p q z => x3 p q (x2 p q (n.ex p q z))) rc3 (show Dd _ _ _ from .lst (.inl upd_same) (.cons (.lst (.inl ?_) (dps_ex (fun p q z => x3 p q (x2 p q z)) g3)) (.cons (dp_ex (fun p q z => x3 p q (x2 p q z)) hw) .nil)))
              rw [upd_ne (Ne.symm nab)]; exact upd_same
            | _ => simp only [ej] at h
      | cel j =>
        by_cases hj : j < cs.length
        · simp only [fin, if_pos c, if_pos hj] at h
          exact h Hf' H' v n.ex rc (hv.cut (cs := cs) n fun j' z => by cases z; omega)
        · obtain ⟨a, h1, rfl⟩ := hv
          have hj' : j < cs'.length := by rw [← r'.lenc]; exact (List.getElem?_eq_some_iff.mp h1).1
          obtain ⟨b, g1, g2⟩ := r'.cells j cs'[j] (by simp [hj'])
          rw [h1] at g1; cases g1
          have ma : a ∈ ca' := List.mem_of_getElem? h1
          simp only [fin, if_pos c, if_neg hj, List.getElem?_eq_getElem hj'] at h
          by_cases po : cs'[j].pl = true
          · simp only [if_pos po] at h
            refine h Hf' H' _ n.ex rc ⟨a, rfl, g2.of_pl po, r'.off a ma, fun z => ?_, ?_⟩
            · obtain ⟨t, ht⟩ := n.pre
              obtain ⟨i, hi, ei⟩ := List.mem_iff_getElem.mp z
              have e3 : ca'[i]? = some a := by rw [← ht, List.getElem?_append_left hi]; simp [hi, ei]
              have := nd_ix r'.nd h1 e3
              omega
            · exact r'.bn ma (g2.nf po)
          · simp only [if_neg po] at h <;> exact h.elim
    · cases rv <;> (simp only [fin, if_neg c] at h <;> exact h.elim)
  | er c ρ' cs' =>
    rw [e] at h
    by_cases c1 : okc cs.length cs' = true
    · simp only [fin, if_pos c1] at h
      exact fun ca' Hf' σ' H' cls n r' hc => h Hf' H' cls n.ex (r.cut n r' c1) hc
    · simp only [fin, if_neg c1] at h <;> exact h.elim
  | bk ρ' cs' => rw [e] at h; exact h.elim
  | ct ρ' cs' => rw [e] at h; exact h.elim
  | no => rw [e] at h; exact h.elim
/-- a def by its mirror, from any frame where nothing is being shown -/
theorem def_okG (Fd : FunD K x qual params body scope dvs kws f fd) (sc : FnScope N ps scope) {g : G} (m : Nat) (hm : N.length = ps.length + m)
    (hbody : ∀ (cdv : Value) (A : Around) (outer : List Env) (s : Shared) (H : Hp) (E : XK), A.guards = some [] → Room k (A.deeper (PyProof.Rows.envOfC qual scope s.heap.objs.size f cdv)) → Takes (BX P w K mg base N qual scope f cdv A outer s H E) (BW E) →
      PassesOwn (model P w) (BX P w K mg base N qual scope f cdv A outer s H E).A (BX P w K mg base N qual scope f cdv A outer s H E).env (BX P w K mg base N qual scope f cdv A outer s H E).xe → DSs (BX P w K mg base N qual scope f cdv A outer s H E) (BW E) body g) :
    FnG P w K mg base (k + 1) f fd ps (spE mg ps.length (runG m g)) :=
  fnG_ok Fd sc (fun vs H Q E h => h.1) fun cdv A outer s H vs Q E hg hr h => body_run m hm (hbody cdv A outer s H E hg hr takesB passesB) h
end
theorem Rel0 {H : Hp} {a : Addr} {ns : List Int} (rd : Rd H a (.lst (ns.map V.int))) : Rel (fun _ => none) [] [.d (.list (ns.map .int))] [] H ([V.ref a].map some) H := by
  have dd : Dds H (ns.map V.int) (ns.map PyData.int) := dds_ints ns
  refine ⟨fun _ _ h => h, rfl, fun i s e => ?_, fun j o e => (by simp at e), rfl, List.nodup_nil, fun b z => (by simp at z), fun b o z => (by cases z), fun b z => absurd rfl z⟩
  cases i with
  | zero => simp at e; subst e; exact .inr ⟨.ref a, rfl, .lst rd dd⟩
  | succ i => simp at e
theorem law_callG {P : Program} {w : World} {K : PySem.W.Frag} {mg mb : Str → Option Value} {k : Nat} {fa a : Addr} {fd : FuncData} {x : Str} {F : List S → M Rv} {s1 : Shared} {vs : List Value} {ns : List Int}
    (KX : K.In s1.heap) (nsG : s1.heap.Ns mainGlobals mg) (nsB : s1.heap.Ns builtinsNs mb) (bl : ∀ x : Str, x ≠ "__name__" → mb x = bootBuiltins x) (lim : s1.heap.NoLimit) (g0 : s1.gens = #[])
    (ga : s1.heap.get? a = some { cls := .type "list", data := .seq vs.toArray }) (hi : IntsAre vs ns) (hz : ns.length ≤ sizeLine) (hr : Room k callerA) (hno : ∀ b o, K.lookup b = some o → o.cls ≠ .type "list")
    (hF : ∀ base : Heap, K.In base → base.Ns mainGlobals mg → FnG P w K mg base k fa fd [x] (spE mg 1 F)) (hb : ∀ (s : Shared) (u : Value), BindsTo s fd ⟨[u], []⟩ [(x, u)])
    (hl : ∃ cs', F [.d (.list (ns.map .int))] [] = .ok (.d (.bool true)) cs') :
    codeAny (model P w) callerA (.call (.ref fa) ⟨[.ref a], []⟩) (fun r s' => r = .ok (.ret (.bool true)) ∧ OldK s1.heap s'.heap ∧ s'.os = s1.os ∧ AllBare s'.gens) s1 := by
  have hka : K.lookup a = none := by
    cases q : K.lookup a with
    | none => rfl
    | some o =>
      have e := KX a o q
      rw [ga] at e
      cases e
      exact absurd rfl (hno a _ q)
  let obj : Obj := { cls := .type "list", data := .seq vs.toArray }
  let H : Hp := fun b => if b = a then some (.frz obj (.lst (ns.map V.int))) else none
  have Ha : H a = some (.frz obj (.lst (ns.map V.int))) := if_pos rfl
  have Hn : ∀ b, b ≠ a → H b = none := fun b z => if_neg z
  have Hs : ∀ b u, H b = some u → b = a ∧ u = .frz obj (.lst (ns.map V.int)) := fun b u z => by
    by_cases c : b = a
    · subst c; rw [Ha] at z; cases z; exact ⟨rfl, rfl⟩
    · rw [Hn b c] at z; cases z
  have okA : HOk P w H s1.heap := fun b u z => by
    obtain ⟨rfl, rfl⟩ := Hs b u z
    exact ⟨ga, by rw [List.length_map]; exact hz, vs, _, vals_ints hi, ga⟩
  have atB : ∀ {b : Addr} {o : Obj}, s1.heap.get? b = some o → b ≠ a → (hidT s1.heap H).get? b = some o := fun e c => hidT_get e (Hn _ c)
  have nsK : ∀ {b : Addr} {m : Str → Option Value}, s1.heap.Ns b m → (hidT s1.heap H).Ns b m := by
    rintro b m ⟨o, es, ep, e, d, r⟩
    refine ⟨o, es, ep, atB e ?_, d, r⟩
    rintro rfl
    rw [ga] at e; cases e
    cases (show Data.seq vs.toArray _ = Data.dict es ep from d)
  have KB : K.In (hidT s1.heap H) := fun b o e => atB (KX b o e) (by rintro rfl; rw [hka] at e; cases e)
  have md : Mod K mg (hidT s1.heap H) := ⟨KB, nsK nsG, ⟨mb, nsK nsB, bl⟩, lim.imp fun mc z => ⟨nsK z.1, z.2⟩⟩
  have e0 : Env0 P w K mg (hidT s1.heap H) callerA [] s1 H := ⟨rfl, md, fun b o e => of_hidT e, Nat.le_of_eq (hidT_size _ _), trivial, fun b z => (by cases z), okA, .of_eq g0⟩
  obtain ⟨cs', el⟩ := hl
  have sp : spE mg 1 F [.ref a] H (fun v _ => v = .bl true) fun _ _ _ => False := by
    refine ⟨rfl, fun _ => none, [], [], H, _, Rel0 (.inr ⟨obj, Ha⟩), ?_⟩
    rw [el]
    intro Hf' H' v _ _ hv
    have hv' : Dd Hf' v (.bool true) := hv
    cases hv'
    rfl
  refine codeAny_mono ((hF _ KB (nsK nsG)).run callerA [] s1 H ⟨[.ref a], []⟩ [.ref a] [.ref a] _ _ rfl hr e0 (hb s1 (.ref a)) (.cons rfl .nil) sp) fun r s2 h => ?_
  cases r with
  | error e =>
    obtain ⟨_, _, _, _, _, _, _, z⟩ := h
    exact absurd z (by first | exact id | simp)
  | ok fl =>
    cases fl with
    | ret u =>
      obtain ⟨v, H2, h1, h2, un, ok2, rv, q⟩ := h
      subst q
      have eu : u = Value.bool true := rv
      subst eu
      refine ⟨rfl, OldK.of_keep fun b o e => ?_, h1, h2⟩
      by_cases c : b = a
      · subst c
        rw [ga] at e; cases e
        exact (ok2 b _ (un.frzs b obj _ Ha)).1
      · exact un.keep b o e (Hn b c) (by intro z; cases z) (by simp)
    | _ => exact False.elim h
end Dn
namespace Dn
open PySem L2
theorem hu200 {k : Nat} {A : Around} (r : Room k A) : A.units + 200 < cLine := by have := r.un; omega
end Dn

set_option Elab.async false
set_option linter.all false
set_option maxRecDepth 100000
set_option maxHeartbeats 1000000
namespace Dn
open PySem L2
def sTgt (g : D → List S → Option (List S)) (f : List S → M S) : G := fun ρ => stp (f ρ) (fun s cs => match s with
  | .d x => match g x ρ with
    | some ρ' => .nx ρ' cs
    | none => .no
  | _ => .no) ρ
def sPar (i j : Nat) (fa fb : List S → M S) : G := fun ρ => stp (bnd (fa ρ) fun a => bnd (fb ρ) fun b => ret (a, b)) (fun p cs => .nx ((ρ.set i p.1).set j p.2) cs) ρ
section
variable {X : Cx} {W : WX} {a b tg : Expr} {f fa fb : List S → M S} {g : D → List S → Option (List S)} {pos : Pos}
theorem dst_tgt (ha : DE X W a f) (hg : DG X tg g) (hs : swapsWithSole [tg] a pos.line X.env = pure false := by rfl) (hw : swappedStores [tg] a X.env = pure none := by rfl)
    (h1 : (assignEach [tg] X.env).map (·.2) = [assign tg X.env] := by rfl) : DSt X W (.Assign [tg] a pos) (sTgt g f) := by
  obtain ⟨t, p, k⟩ := ha
  obtain ⟨u, pg, kg⟩ := hg
  refine ⟨_, ps_asg p pg hs hw h1, fun B ca ρ cs Hf σ H En r hg => ?_⟩
  refine k B ca ρ cs Hf σ H _ r (hg.stp_.mono fun ca1 Hf1 H1 cs1 s n1 r1 h1 v hv => ?_)
  cases s with
  | d x =>
    have h2 : GO X W B ca1 Hf1 En (match g x ρ with
      | some ρ' => Out.nx ρ' cs1
      | none => .no) := h1
    cases e : g x ρ with
    | none => rw [e] at h2; exact h2.elim
    | some ρ' =>
      rw [e] at h2
      exact kg B ca1 ρ ρ' cs1 Hf1 σ H1 v x _ r1 hv e fun σ' r' => h2.nx_ r'
  | _ => exact h1.elim
theorem dst_par (i j : Nat) {x y : Str} {px py pt : Pos} {kt k2 pt2} (hN : X.N.Nodup) (ha : DE X W a fa) (hb : DE X W b fb) (hi : X.N[i]? = some x := by rfl) (hj : X.N[j]? = some y := by rfl) (hij : i ≠ j := by decide)
    (hx : X.env.scope.names.lookup x = some .local := by rfl) (hy : X.env.scope.names.lookup y = some .local := by rfl) (hc : X.calm = true := by rfl)
    (hw : swappedStores [.Tuple [.Name x px, .Name y py] kt pt] (.Tuple [a, b] k2 pt2) X.env = pure (some [x, y]) := by rfl)
    (hs : swapsWithSole [.Tuple [.Name x px, .Name y py] kt pt] (.Tuple [a, b] k2 pt2) pos.line X.env = pure false := by rfl)
    (na : starEach [a, b] X.env = (false, eval a X.env) :: starEach [b] X.env := by rfl) (nb : starEach [b] X.env = (false, eval b X.env) :: starEach [] X.env := by rfl) :
    DSt X W (.Assign [.Tuple [.Name x px, .Name y py] kt pt] (.Tuple [a, b] k2 pt2) pos) (sPar i j fa fb) := by
  obtain ⟨t, p, k⟩ := ha
  obtain ⟨u, q, l⟩ := hb
  refine ⟨_, ps_par hc hN hi hj hij hx hy (pa_cons p (pa_cons q pa_nil nb) na) hw hs, fun B ca ρ cs Hf σ H En r hg => ?_⟩
  refine k B ca ρ cs Hf σ H _ r (hg.stp_.bind.mono fun ca1 Hf1 H1 cs1 s1 n1 r1 h1 v hv => ?_)
  refine l B ca1 ρ cs1 Hf1 σ H1 _ r1 (h1.bind.mono fun ca2 Hf2 H2 cs2 s2 n2 r2 h2 w hw => ?_)
  have h3 : GO X W B ca2 Hf2 En (Out.nx ((ρ.set i s1).set j s2) cs2) := h2.ret_ r2
  exact ⟨v, w, rfl, h3.nx_ ((r2.set i (hv.nx n2)).set j hw)⟩
end
def dvK (kvs : List (Key × D)) (k : Key) : Option D := (kvs.find? fun p => decide (p.1 = k)).map (·.2)
def dpK (kvs : List (Key × D)) (k : Key) (x : D) : List (Key × D) := if (kvs.any fun p => decide (p.1 = k)) = true then kvs.map (fun p => if p.1 = k then (p.1, x) else p) else kvs ++ [(k, x)]
def dicM (s : S) : M (Nat × List (Key × D)) := fun cs => match s with
  | .cel j => match cs[j]? with
    | some (.dK kvs) => .ok (j, kvs) cs
    | _ => .no
  | _ => .no
def eDic0 (_ : List S) : M Rv := ret (.own (.dK []))
def keyM (s : S) : M Key := match s with
  | .d x => ofO (kyD x)
  | _ => stuck
def eIxK (fo fi : List S → M S) (ρ : List S) : M S := bnd (fo ρ) fun o => bnd (fi ρ) fun i => bnd (dicM o) fun p => bnd (keyM i) fun k => bnd (ofO (dvK p.2 k)) fun d => ret (.d d)
def eGet2 (fo fi fx : List S → M S) (ρ : List S) : M S := bnd (fo ρ) fun o => bnd (dicM o) fun _ => bnd (fi ρ) fun i => bnd (fx ρ) fun x => bnd (dicM o) fun p => bnd (keyM i) fun k => match x with
  | .d z => ret (.d ((dvK p.2 k).getD z))
  | _ => stuck
def eGet1 (fo fi : List S → M S) (ρ : List S) : M S := bnd (fo ρ) fun o => bnd (dicM o) fun _ => bnd (fi ρ) fun i => bnd (dicM o) fun p => bnd (keyM i) fun k => ret (.d ((dvK p.2 k).getD .none))
def cInK (neg : Bool) (fi fo : List S → M S) (ρ : List S) : M Bool := bnd (fi ρ) fun i => bnd (fo ρ) fun o => bnd (dicM o) fun p => bnd (keyM i) fun k => ret (if neg = true then !(dvK p.2 k).isSome else (dvK p.2 k).isSome)
def sSubK (fo fi fe : List S → M S) : G := fun ρ => stp (bnd (fe ρ) fun e => bnd (fo ρ) fun o => bnd (fi ρ) fun i => bnd (dicM o) fun p => bnd (keyM i) fun k => match e with
  | .d x => if p.2.length < sizeLine then putM p.1 (.dK (dpK p.2 k x)) else stuck
  | _ => stuck) (fun _ cs => .nx ρ cs) ρ
def eLenK (fo : List S → M S) (ρ : List S) : M S := bnd (fo ρ) fun o => bnd (dicM o) fun p => ret (.d (.int p.2.length))
/-- sorted(d), the keys texts -/
def eSortK (fo : List S → M S) (ρ : List S) : M S := bnd (fo ρ) fun o => bnd (dicM o) fun p => match sortKT (p.2.map (·.1)) with
  | some ks => if ks.length < 64 then ret (.d (.list ((sortT ks).map .str))) else stuck
  | none => stuck
section
variable {X : Cx} {W : WX} {B : Hp} {ca : List Addr} {Hf H : Hp} {ρ : List S} {σ : L2.St} {cs : Store} {β : Type} {P : List Addr → Hp → Hp → Store → β → Prop}
end
section
variable {X : Cx} {W : WX} {o i e f : Expr} {fo fi fe fx : List S → M S} {pos pos' apos cpos p : Pos}
theorem hu1 {k : Nat} {A : Around} (r : Room k A) : A.units + 1 < cLine := by have := r.un; omega
end
end Dn

set_option Elab.async false
set_option linter.all false
set_option maxRecDepth 100000
set_option maxHeartbeats 1000000
namespace Dn
open PySem L2
def revG : List D → Option D
  | [.list xs] => if xs.length ≤ sizeLine then some (.list xs.reverse) else none
  | _ => none
theorem dds_rev {Hf : Hp} : ∀ {vs : List V} {xs : List D}, Dds Hf vs xs → Dds Hf vs.reverse xs.reverse
  | _, _, .nil => .nil
  | _, _, .cons h t => by
    rw [List.reverse_cons, List.reverse_cons]
    exact dps_app (dds_rev t) (.cons h .nil)
section
variable {X : Cx} {W : WX} {a b c e : Expr} {fa fb fc : List S → M S} {pos : Pos}
theorem de_rev {k : Nat} {p1 p2 p3 : Pos} (ha : DE X W e fa) : DE X W (.Subscript e (.Slice none none (some (.UnaryOp .USub (.Constant (.int 1) k p1) p2)) p3) pos) (eCd revG (aCons fa aNil)) := by
  obtain ⟨t, pr, kk⟩ := ha
  refine ⟨_, pe_revL pr, fun B ca ρ cs Hf σ H Q r h => ?_⟩
  refine kk B ca ρ cs Hf σ H _ r (h.bind.bind.mono fun ca1 Hf1 H1 cs1 s n1 r1 h1 v hv => ?_)
  have h2 : Gs X W B ca1 Hf1 ρ σ (bnd (vwsM [s]) (fun ds => bnd (ofO (revG ds)) fun d => ret (.d d)) cs1) (fun ca' Hf' H' _ s => ∀ v, SvOk ca' Hf' s v → Q v H') := (h1.ret_ r1)
  obtain ⟨ds, e1, h3⟩ := vwsM_ h2
  obtain ⟨d, e2, h4⟩ := ofOb_ h3
  have lv := vws_ok r1 (SvsOk.cons hv .nil) e1
  match ds, e2, lv with
  | [x], e2, lv =>
    cases x with
    | list xs =>
      obtain ⟨l, vs, rfl, q1, q2⟩ := lv.1.lst
      have e2' : (if xs.length ≤ sizeLine then some (PyData.list xs.reverse) else none) = some d := e2
      split at e2'
      · rename_i hz
        cases e2'
        refine ⟨l, vs, rfl, .inl q1, fun p hp => ?_⟩
        have g := Gw.new (o := .lst vs.reverse) r1.ext hp
        obtain ⟨r3, n3⟩ := r1.gw g
        exact h4 ca1 _ _ n3 r3 _ (show Dd _ _ _ from .lst (.inl upd_same) (dps_ex n3.ex (dds_rev q2)))
      · cases e2'
    | _ => cases e2
  | [], e2, lv => exact absurd e2 (by simp [revG])
  | _ :: _ :: _, e2, lv => exact absurd e2 (by simp [revG])
end
end Dn

set_option Elab.async false
set_option linter.all false
set_option maxRecDepth 100000
set_option maxHeartbeats 1000000
namespace Dn
open PySem L2
section
variable {X : Cx} {W : WX} {k : Nat} {f : Addr} {fd : FuncData} {x : Str} {p pos : Pos} {F : List S → M Rv}
end
end Dn

set_option Elab.async false
set_option linter.all false
set_option maxRecDepth 100000
set_option maxHeartbeats 1000000
namespace Dn
open PySem L2
mutual
/-- no list stands in it -/
def nlD : D → Bool
  | .list _ => false
  | .tuple xs => nlDs xs
  | .dict _ => false
  | _ => true
def nlDs : List D → Bool
  | [] => true
  | x :: xs => nlD x && nlDs xs
end
/-- cells are seen as data -/
def seeS (cs : Store) : List S → Option (List S)
  | [] => some []
  | .cel j :: r => match cs[j]? with
    | some (.lst xs) => (seeS cs r).map (.d (.list xs) :: ·)
    | _ => none
  | s :: r => (seeS cs r).map (s :: ·)
def callV (F : List S → M Rv) (ss : List S) : M Rv := fun cs => match seeS cs ss with
  | some tt => (match F tt [] with
    | .ok (.d x) _ => if nlD x = true then .ok (.d x) cs else .no
    | .ok (.own (.lst xs)) _ => if nlDs xs = true then .ok (.own (.lst xs)) cs else .no
    | .er c _ => .er c cs
    | _ => .no)
  | none => .no
def eCallV (F : List S → M Rv) (g : List S → M (List S)) (ρ : List S) : M Rv := bnd (g ρ) (callV F)
/-- the addresses of the cells among them -/
def adS (ca : List Addr) : List S → List Addr
  | [] => []
  | .cel j :: r => match ca[j]? with
    | some a => a :: adS ca r
    | none => adS ca r
  | _ :: r => adS ca r
def addA (Hf H : Hp) (as : List Addr) : Hp := fun a => if a ∈ as then H a else Hf a
def remA (Hf : Hp) (as : List Addr) : Hp := fun a => if a ∈ as then none else Hf a
section
variable {B : Hp} {ca : List Addr} {ρ : List S} {cs : Store} {Hf Hf' : Hp} {σ : L2.St} {H H' : Hp} {ss tt : List S} {vs : List V} {as : List Addr}
theorem adS_sub : ∀ {ss : List S} {a : Addr}, a ∈ adS ca ss → a ∈ ca
  | .cel j :: r, a, h => by
    unfold adS at h
    split at h
    · rename_i b e
      rcases List.mem_cons.1 h with rfl | h
      · exact List.mem_of_getElem? e
      · exact adS_sub h
    · exact adS_sub h
  | .no :: r, a, h => adS_sub (ss := r) h
  | .d x :: r, a, h => adS_sub (ss := r) h
  | .fn x :: r, a, h => adS_sub (ss := r) h
/-- what is seen of cells: lists -/
theorem adS_lst (r : Rel B ca ρ cs Hf σ H) : ∀ {ss tt : List S} {a : Addr}, seeS cs ss = some tt → a ∈ adS ca ss → ∃ vs xs, H a = some (.lst vs) ∧ Dds Hf vs xs
  | .cel j :: t, tt, a, e, h => by
    unfold seeS at e
    split at e
    · rename_i xs q
      obtain ⟨b, h1, vs, h2, h3⟩ := r.cells j _ q
      unfold adS at h
      rw [h1] at h
      rcases List.mem_cons.1 h with rfl | h
      · exact ⟨vs, xs, h2, h3⟩
      · cases z : seeS cs t with
        | none => rw [z] at e; cases e
        | some t' => exact adS_lst r z h
    · cases e
  | .no :: t, tt, a, e, h => by
    cases z : seeS cs t with
    | none => have e' : (seeS cs t).map (S.no :: ·) = some tt := e; rw [z] at e'; cases e'
    | some t' => exact adS_lst r z (show a ∈ adS ca t from h)
  | .d x :: t, tt, a, e, h => by
    cases z : seeS cs t with
    | none => have e' : (seeS cs t).map (S.d x :: ·) = some tt := e; rw [z] at e'; cases e'
    | some t' => exact adS_lst r z (show a ∈ adS ca t from h)
  | .fn x :: t, tt, a, e, h => by
    cases z : seeS cs t with
    | none => have e' : (seeS cs t).map (S.fn x :: ·) = some tt := e; rw [z] at e'; cases e'
    | some t' => exact adS_lst r z (show a ∈ adS ca t from h)
theorem addA_ex (off : ∀ a ∈ as, Hf a = none) : Ex Hf (addA Hf H as) := fun a o h => by
  unfold addA
  rw [if_neg]
  · exact h
  · intro m; rw [off a m] at h; cases h
theorem addA_ext (e : Ex Hf H) : Ex (addA Hf H as) H := fun a o h => by
  unfold addA at h
  split at h
  · exact h
  · exact e a o h
theorem see_sv (r : Rel B ca ρ cs Hf σ H) (off : ∀ a ∈ as, Hf a = none) : ∀ {ss tt : List S} {vs : List V}, seeS cs ss = some tt → (∀ a ∈ adS ca ss, a ∈ as) → SvsOk ca Hf ss vs → SvsOk [] (addA Hf H as) tt vs
  | [], tt, _, e, _, h => by cases h; cases e; exact .nil
  | .no :: t, tt, _, e, _, h => by cases h with | cons h t => exact h.elim
  | .d x :: t, tt, _, e, m, h => by
    cases h with
    | cons h k =>
      have e' : (seeS cs t).map (S.d x :: ·) = some tt := e
      cases z : seeS cs t with
      | none => rw [z] at e'; cases e'
      | some t' => rw [z] at e'; cases e'; exact .cons (dp_ex (addA_ex off) h) (see_sv r off z m k)
  | .fn x :: t, tt, _, e, m, h => by
    cases h with
    | cons h k =>
      have e' : (seeS cs t).map (S.fn x :: ·) = some tt := e
      cases z : seeS cs t with
      | none => rw [z] at e'; cases e'
      | some t' => rw [z] at e'; cases e'; exact .cons h (see_sv r off z m k)
  | .cel j :: t, tt, _, e, m, h => by
    cases h with
    | cons h k =>
      unfold seeS at e
      split at e
      · rename_i xs q
        obtain ⟨a, ha, rfl⟩ := h
        obtain ⟨b, h1, vs, h2, h3⟩ := r.cells j _ q
        have eb : a = b := by rw [ha] at h1; exact Option.some.inj h1
        subst eb
        have m' : ∀ x ∈ adS ca (.cel j :: t), x ∈ as := m
        unfold adS at m'
        rw [ha] at m'
        cases z : seeS cs t with
        | none => rw [z] at e; cases e
        | some t' =>
          rw [z] at e; cases e
          refine .cons (.lst (.inl ?_) (dps_ex (addA_ex off) h3)) (see_sv r off z (fun x hx => m' x (List.mem_cons_of_mem _ hx)) k)
          unfold addA
          rw [if_pos (m' a (List.mem_cons_self ..))]
          exact h2
      · cases e
theorem Rel.enterV (r : Rel B ca ρ cs Hf σ H) (off : ∀ a ∈ as, Hf a = none) (hv : SvsOk [] (addA Hf H as) tt vs) : Rel (ban (addA Hf H as) H []) [] tt [] (addA Hf H as) (vs.map some) H :=
  ⟨addA_ext r.ext, by simp [hv.len], slots_of hv, fun j o e => by simp at e, rfl, List.nodup_nil, fun a m => by simp at m, ban_ex, fun a m => ⟨(ban_of m).1, .inl (ban_of m).2⟩⟩
theorem Rel.leaveV {ss' : List S} {σ' : L2.St} (r : Rel B ca ρ cs Hf σ H) (sub : ∀ a ∈ as, a ∈ ca) (e : Ex (addA Hf H as) Hf') (r' : Rel (ban (addA Hf H as) H []) [] ss' [] Hf' σ' H') : Rel B ca ρ cs (remA Hf' as) σ H' ∧ Nx ca Hf ca (remA Hf' as) := by
  have off : ∀ a ∈ as, Hf a = none := fun a m => r.off a (sub a m)
  have kp : ∀ a, Hf a = none → ∀ o, H a = some o → H' a = some o := fun a h o q => by
    by_cases m : a ∈ as
    · refine r'.ext a o (e a o ?_)
      unfold addA; rw [if_pos m]; exact q
    · refine r'.exb a o (ban_some ?_ (by simp) q)
      unfold addA; rw [if_neg m]; exact h
  have nf : ∀ a, Hf a = none → H a ≠ none → remA Hf' as a = none := fun a h q => by
    unfold remA
    by_cases m : a ∈ as
    · rw [if_pos m]
    · rw [if_neg m]
      cases z : H a with
      | none => exact absurd z q
      | some o => exact (r'.dis a (by rw [ban_some (by unfold addA; rw [if_neg m]; exact h) (by simp) z]; simp)).1
  have ex : Ex Hf (remA Hf' as) := fun a o h => by
    unfold remA
    rw [if_neg fun m => by rw [off a m] at h; cases h]
    exact e a o (addA_ex off a o h)
  have n : Nx ca Hf ca (remA Hf' as) := ⟨List.prefix_refl _, ex⟩
  refine ⟨⟨fun a o h => ?_, r.len, fun i s q => ?_, fun j o q => ?_, r.lenc, r.nd, fun a m => nf a (r.off a m) (r.there m), fun a o q => kp a (r.dis a (by rw [q]; simp)).1 o (r.exb a o q), fun a m => ?_⟩, n⟩
  · unfold remA at h
    split at h
    · cases h
    · exact r'.ext a o h
  · rcases r.sl i s q with z | ⟨v, h1, h2⟩
    · exact .inl z
    · exact .inr ⟨v, h1, h2.nx n⟩
  · obtain ⟨a, h1, h2⟩ := r.cells j o q
    refine ⟨a, h1, h2.at ?_ ex⟩
    have ma := List.mem_of_getElem? h1
    cases z : H a with
    | none => exact absurd z (r.there ma)
    | some u => exact kp a (r.off a ma) u z
  · obtain ⟨h1, h2⟩ := r.dis a m
    refine ⟨nf a h1 ?_, h2⟩
    cases q : B a with
    | none => exact absurd q m
    | some u => rw [r.exb a u q]; simp
theorem rd_rem {a : Addr} {us : List V} (hl : ∀ a ∈ as, ∃ ws, Hf' a = some (.lst ws)) (h : TupF Hf' a us) : TupF (remA Hf' as) a us := by
  obtain ⟨o, h, d⟩ := h
  have na : a ∉ as := fun m => by
    obtain ⟨ws, e⟩ := hl a m
    rw [e] at h; cases h
  exact ⟨o, by unfold remA; rw [if_neg na]; exact h, d⟩
mutual
theorem dd_rem (hl : ∀ a ∈ as, ∃ ws, Hf' a = some (.lst ws)) : ∀ {v : V} {d : D}, nlD d = true → Dd Hf' v d → Dd (remA Hf' as) v d
  | _, _, _, .non => .non
  | _, _, _, .bl b => .bl b
  | _, _, _, .int i => .int i
  | _, _, _, .str x => .str x
  | _, _, n, .lst _ _ => by cases n
  | _, _, n, .tup h a => .tup (rd_rem hl h) (dds_rem hl n a)
theorem dds_rem (hl : ∀ a ∈ as, ∃ ws, Hf' a = some (.lst ws)) : ∀ {vs : List V} {ds : List D}, nlDs ds = true → Dds Hf' vs ds → Dds (remA Hf' as) vs ds
  | _, _, _, .nil => .nil
  | _, _, n, .cons h t => by
    have n' := (Bool.and_eq_true _ _).mp n
    exact .cons (dd_rem hl n'.1 h) (dds_rem hl n'.2 t)
end
end
section
variable {X : Cx} {W : WX} {k : Nat} {x : Str} {ps : List Str} {F : List S → M Rv} {p pos : Pos} {e : Expr} {es : List Expr} {g : List S → M (List S)}
theorem callV_run {n : Nat} {B : Hp} {ca : List Addr} {ρ : List S} {cs : Store} {Hf : Hp} {σ : L2.St} {H : Hp} {Q : VK} {ss : List S} {vs : List V} (r : Rel B ca ρ cs Hf σ H) (hn : vs.length = n) (hv : SvsOk ca Hf ss vs)
    (h : Gs X W B ca Hf ρ σ (callV F ss cs) (fun ca' Hf' H' _ rv => ∀ v, RvOk B ca' Hf' H' rv v → Q v H')) : spE X.mg n F vs H Q (WE W σ) := by
  unfold callV at h
  cases q0 : seeS cs ss with
  | none => rw [q0] at h; exact h.elim
  | some tt =>
    rw [q0] at h
    have sub : ∀ a ∈ adS ca ss, a ∈ ca := fun a m => adS_sub m
    have off : ∀ a ∈ adS ca ss, Hf a = none := fun a m => r.off a (sub a m)
    have hv' := see_sv r off q0 (fun a m => m) hv
    refine ⟨hn, _, [], [], addA Hf H (adS ca ss), tt, r.enterV off hv', ?_⟩
    have lst : ∀ {Hf' : Hp}, Ex (addA Hf H (adS ca ss)) Hf' → ∀ a ∈ adS ca ss, ∃ ws, Hf' a = some (.lst ws) := fun ex a m => by
      obtain ⟨ws, xs, h1, h2⟩ := adS_lst r q0 m
      refine ⟨ws, ex a _ ?_⟩
      unfold addA; rw [if_pos m]; exact h1
    cases q : F tt [] with
    | no => simp only [q] at h; exact h.elim
    | er c cs1 =>
      simp only [q] at h
      intro Hf' H' cls ex r' hm
      cases cs1 with
      | nil =>
        obtain ⟨r2, n2⟩ := r.leaveV sub ex r'
        exact h ca _ H' cls n2 r2 hm
      | cons _ _ => exact absurd r'.lenc (by simp)
    | ok rv cs1 =>
      simp only [q] at h
      intro Hf' H' v ex r' hr
      have e1 : cs1 = [] := by
        have := r'.lenc
        exact List.length_eq_zero_iff.mp (by simpa using this.symm)
      subst e1
      obtain ⟨r2, n2⟩ := r.leaveV sub ex r'
      cases rv with
      | d y =>
        by_cases c : nlD y = true
        · simp only [c, if_true] at h
          exact h ca _ H' n2 r2 v (dd_rem (lst ex) c hr)
        · simp only [c] at h; exact h.elim
      | own o =>
        cases o with
        | dK kvs => exact h.elim
        | dC kvs => exact h.elim
        | dU kvs => exact h.elim
        | lC kvs => exact h.elim
        | tk kvs => exact h.elim
        | fK kvs => exact h.elim
        | ins C fs => exact h.elim
        | dV w kvs => exact h.elim
        | lst xs =>
          by_cases c : nlDs xs = true
          · simp only [c, if_true] at h
            refine h ca _ H' n2 r2 v ?_
            obtain ⟨a, e, ⟨ws, g1, g2⟩, g3, _, g5⟩ := hr
            have na : a ∉ adS ca ss := fun m => by
              obtain ⟨ws', e'⟩ := lst ex a m
              rw [e'] at g3; cases g3
            have hb : ∀ o, H a = some o → Hf a = none → False := fun o q z => by
              rw [ban_some (by unfold addA; rw [if_neg na]; exact z) (by simp) q] at g5; cases g5
            refine ⟨a, e, ⟨ws, g1, dds_rem (lst ex) c g2⟩, ?_, fun m => ?_, ?_⟩
            · unfold remA; rw [if_neg na]; exact g3
            · cases z : H a with
              | none => exact r.there m z
              | some u => exact hb u z (r.off a m)
            · cases z : B a with
              | none => rfl
              | some u => exact (hb u (r.exb a u z) (r.dis a (by rw [z]; simp)).1).elim
          · simp only [c] at h; exact h.elim
      | cel j => exact h.elim
      | pr x xs => exact h.elim
      | cp j x => exact h.elim
theorem do_fV (h : Okf X.prog X.w X.K X.mg X.base k x ps F) (hr : Room k X.A) (tk : Takes X W)
    (ha : DA X W (e :: es) g) (hlen : ∀ ρ cs ss cs', g ρ cs = .ok ss cs' → ss.length = ps.length) (hl : (e :: es).length = ps.length := by rfl) (hg : Gl X x := by rfl) (hdb : (x == ("__debug__" : Str)) = false := by decide) (he : starEach (e :: es) X.env = (false, eval e X.env) :: starEach es X.env := by rfl) (hpl : (backTo pos (starEach es X.env)).any (·.1) = false := by rfl)
    : DO X W (.Call (.Name x p) (e :: es) [] pos) (eCallV F g) := by
  obtain ⟨f, fd, hm, _, Fk, hb, hk⟩ := h
  obtain ⟨t, pt, kt⟩ := ha
  refine ⟨_, pe_callS (E := WE W) Fk hr hg hm hk hb (passAt tk) pt hdb he hpl, fun B ca ρ cs Hf σ H Q r h => ?_⟩
  have h' := h
  cases q : g ρ cs with
  | ok ss cs1 =>
    refine kt B ca ρ cs Hf σ H _ r ?_
    have hss := hlen ρ cs ss cs1 q
    rw [q]
    intro ca1 Hf1 H1 n1 r1 vs hvs
    have h1 : Gs X W B ca1 Hf1 ρ σ (callV F ss cs1) (fun ca' Hf' H' _ rv => ∀ v, RvOk B ca' Hf' H' rv v → Q v H') := by
      have e1 : eCallV F g ρ cs = callV F ss cs1 := bnd_ok q
      rw [← e1]; exact h.fwd n1
    exact callV_run r1 (by rw [← hvs.len]; exact hss) hvs h1
  | er c cs1 =>
    refine kt B ca ρ cs Hf σ H _ r ?_
    rw [q]
    have e1 : eCallV F g ρ cs = .er c cs1 := by unfold eCallV bnd; rw [q]
    rw [e1] at h
    exact h
  | no =>
    have e1 : eCallV F g ρ cs = .no := by unfold eCallV bnd; rw [q]
    rw [e1] at h
    exact h.elim
end
end Dn

set_option Elab.async false
set_option linter.all false
set_option maxRecDepth 100000
set_option maxHeartbeats 1000000
namespace Dn
open PySem PySem.W PySem.Calls PyProof.Rows

section
variable {pr : Program} {w : World} {A : Around} {E : Value → Shared → Prop} {s : Shared} {lst sto : Addr} {b : Bool} {vs : List Value} {ep : Nat} {P : PySem.Fin → Shared → Prop}
end

open L2
section
variable {X : Cx} {pins : List (Addr × Obj)} {σ : L2.St} {H : Hp} {s : Shared}
/-- what is new at a heap's end is none of the frame's -/
structure FreshAt (X : Cx) (pins : List (Addr × Obj)) (a : Addr) : Prop where
  s0 : X.s_0.heap.get? a = none
  sz : X.s_0.heap.objs.size ≤ a
  lo : a ≠ X.env.locals
  ce : ∀ x c, X.env.cells.lookup x = some c → c ≠ a
  pi : ∀ p ∈ X.pn ++ pins, p.1 ≠ a
  fs : a ∉ X.fs
end
def keyOf (F : List S → M Rv) (x : D) : D := match F [.d x] [] with
  | .ok (.d k) _ => k
  | _ => .none
def hasKey (F : List S → M Rv) (x : D) : Bool := match F [.d x] [] with
  | .ok (.d _) _ => true
  | _ => false
mutual
theorem nd_self : ∀ (d : D), PySem.W.alike d d = true → ndD d = true
  | .none, _ => by unfold ndD; rfl
  | .bool _, _ => by unfold ndD; rfl
  | .int _, _ => by unfold ndD; rfl
  | .str _, _ => by unfold ndD; rfl
  | .list xs, h => by unfold ndD; exact nds_self xs (by simpa [PySem.W.alike] using h)
  | .tuple xs, h => by unfold ndD; exact nds_self xs (by simpa [PySem.W.alike] using h)
  | .dict _, h => by simp [PySem.W.alike] at h
theorem nds_self : ∀ (ds : List D), PySem.W.alikeAll ds ds = true → ndDs ds = true
  | [], _ => by unfold ndDs; rfl
  | x :: xs, h => by
    unfold ndDs
    simp only [PySem.W.alikeAll, Bool.and_eq_true] at h
    rw [Bool.and_eq_true]
    exact ⟨nd_self x h.1, nds_self xs h.2⟩
end
theorem each_nd {α : Type} {R : α → D → Prop} : ∀ {as : List α} {bs : List D}, PySem.W.EachIs R as bs → (∀ b ∈ bs, ndD b = true) → PySem.W.EachIs (fun a b => R a b ∧ ndD b = true) as bs
  | _, _, .nil, _ => .nil
  | _, _, .cons h t, hb => .cons ⟨h, hb _ List.mem_cons_self⟩ (each_nd t fun b hm => hb b (List.mem_cons_of_mem _ hm))
def tupC : D → Bool
  | .tuple (_ :: _) => true
  | _ => false
def plnC : D → Bool
  | .none => false
  | .tuple _ => false
  | _ => true
def srtOk (ks : List D) : Bool := (ks.all fun a => ks.all fun b => alike a b) && ((ks.all tupC || ks.all plnC) && ks.all fun k => decide (k.depth ≤ 60))
theorem srtOk_of {ks : List D} (h : srtOk ks = true) : AllAlike ks ∧ Sortable ks ∧ ∀ k ∈ ks, k.depth ≤ 60 := by
  unfold srtOk at h
  simp only [Bool.and_eq_true, Bool.or_eq_true, List.all_eq_true, decide_eq_true_eq] at h
  obtain ⟨h1, h2, h3⟩ := h
  refine ⟨fun d hd d' hd' => h1 d hd d' hd', h2.imp (fun z d hd => ?_) (fun z d hd => ?_), h3⟩
  · have := z d hd
    cases d with
    | tuple xs =>
      cases xs with
      | nil => cases this
      | cons x r => exact ⟨x, r, rfl⟩
    | _ => cases this
  · have := z d hd
    refine ⟨fun e => ?_, fun xs e => ?_⟩ <;> subst e <;> cases this
def sortKy (F : List S → M Rv) (xs : List D) : List D := xs.mergeSort (dataLe false (keyOf F))
theorem each_dds {Hf : Hp} : ∀ {vs : List V} {us : List Value} {ds : List D}, Vals vs us → Dds Hf vs ds → EachIs (fun u d => ∃ v, RelV v u ∧ Dd Hf v d) us ds
  | _, _, _, .nil, .nil => .nil
  | _, _, _, .cons r rs, .cons h hs => .cons ⟨_, r, h⟩ (each_dds rs hs)
theorem dds_each {Hf : Hp} : ∀ {us : List Value} {ds : List D}, EachIs (fun u d => ∃ v, RelV v u ∧ Dd Hf v d) us ds → ∃ vs, Vals vs us ∧ Dds Hf vs ds
  | _, _, .nil => ⟨[], .nil, .nil⟩
  | _, _, .cons ⟨v, r, h⟩ t => let ⟨vs, r2, h2⟩ := dds_each t; ⟨v :: vs, .cons r r2, .cons h h2⟩
def keysOk (F : List S → M Rv) (xs : List D) : Bool := decide (xs.length ≤ sizeLine) && (xs.all (hasKey F) && srtOk (xs.map (keyOf F)))
def sortKyG (F : List S → M Rv) : D → Option (List D)
  | .list xs => if keysOk F xs = true then some (sortKy F xs) else none
  | _ => none
def eSortKy (F : List S → M Rv) (fe : List S → M S) (ρ : List S) : M Rv := bnd (fe ρ) fun s => bnd (vwM s) fun d => bnd (ofO (sortKyG F d)) fun xs => ret (.own (.lst xs))
end Dn

set_option Elab.async false
set_option linter.all false
set_option maxRecDepth 100000
set_option maxHeartbeats 1000000
namespace Dn
open PySem L2 PySem.W PyProof.Rows

/-- two lists of the same things that rise by k are one -/
theorem uniq_by {α : Type} (k : α → Int) : ∀ {l m : List α}, l.Perm m → l.Pairwise (fun a b => k a < k b) → m.Pairwise (fun a b => k a < k b) → l = m
  | [], m, p, _, _ => p.nil_eq
  | x :: l, [], p, _, _ => absurd p.symm.nil_eq (by simp)
  | x :: l, y :: m, p, hl, hm => by
    obtain ⟨h1, h2⟩ := List.pairwise_cons.1 hl
    obtain ⟨h3, h4⟩ := List.pairwise_cons.1 hm
    have a : x ∈ y :: m := p.mem_iff.1 (by simp)
    have b : y ∈ x :: l := p.mem_iff.2 (by simp)
    have e : x = y := by
      rcases List.mem_cons.1 a with a | a
      · exact a
      · rcases List.mem_cons.1 b with b | b
        · exact b.symm
        · have c1 := h3 _ a
          have c2 := h1 _ b
          omega
    subst e
    rw [uniq_by k (List.Perm.cons_inv p) h2 h4]
/-- a tuple in the heap with a whole number ahead -/
def HeadIs (h : Heap) (v : Value) (i : Int) : Prop := ∃ a o t xs ys n, v = .ref a ∧ h.get? a = some o ∧ o.cls = .type "tuple" ∧ o.data = .seq xs n ∧ xs.toList = Value.int i t :: ys
theorem HeadIs.keeps {h g : Heap} {v : Value} {i : Int} (x : HeadIs h v i) (k : ∀ b o, h.get? b = some o → o.cls = .type "tuple" → g.get? b = some o) : HeadIs g v i :=
  let ⟨a, o, t, xs, ys, n, e, ho, hc, r⟩ := x; ⟨a, o, t, xs, ys, n, e, k a o ho hc, hc, r⟩
section
variable {pr : Program} {w : World} {A : Around} {s : Shared}
end
def popAtG : List D → List D → Option (D × List D)
  | xs, [.int i] => if 0 ≤ i ∧ i < 2 ^ 62 then (xs[i.toNat]?).map fun d => (d, xs.eraseIdx i.toNat) else none
  | _, _ => none
def insG : List D → List D → Option (D × List D)
  | xs, [.int i, d] => if 0 ≤ i ∧ i < 2 ^ 62 ∧ xs.length < sizeLine then some (.none, xs.take i.toNat ++ [d] ++ xs.drop i.toNat) else none
  | _, _ => none
example := PySem.F.slot_list_insert
example := PySem.F.type_list_insert
end Dn

set_option Elab.async false
set_option linter.all false
set_option maxRecDepth 100000
set_option maxHeartbeats 1000000
namespace Dn
open PySem L2
def callA (F : List S → M Rv) (ss : List S) : M Rv := fun cs => match F ss cs with
  | .ok r cs' => if cs'.length = cs.length then .ok r cs' else .no
  | .er c cs' => if cs'.length = cs.length then .er c cs' else .no
  | .no => .no
def eCallA (F : List S → M Rv) (g : List S → M (List S)) (ρ : List S) : M Rv := bnd (g ρ) (callA F)
section
variable {B : Hp} {ca : List Addr} {ρ : List S} {cs cs' : Store} {Hf Hf' : Hp} {σ : L2.St} {H H' : Hp} {ss : List S} {vs : List V}
theorem Rel.enterA (r : Rel B ca ρ cs Hf σ H) (hv : SvsOk ca Hf ss vs) : Rel B ca ss cs Hf (vs.map some) H :=
  ⟨r.ext, by simp [hv.len], slots_of hv, r.cells, r.lenc, r.nd, r.off, r.exb, r.dis⟩
theorem Rel.leaveA {ss' : List S} {σ' : L2.St} (r : Rel B ca ρ cs Hf σ H) (e : Ex Hf Hf') (r' : Rel B ca ss' cs' Hf' σ' H') : Rel B ca ρ cs' Hf' σ H' ∧ Nx ca Hf ca Hf' := by
  have n : Nx ca Hf ca Hf' := ⟨List.prefix_refl _, e⟩
  refine ⟨⟨r'.ext, r.len, fun i s q => ?_, r'.cells, r'.lenc, r'.nd, r'.off, r'.exb, r'.dis⟩, n⟩
  rcases r.sl i s q with z | ⟨v, h1, h2⟩
  · exact .inl z
  · exact .inr ⟨v, h1, h2.nx n⟩
end
section
variable {X : Cx} {W : WX} {k : Nat} {x : Str} {ps : List Str} {F : List S → M Rv} {p pos : Pos} {e : Expr} {es : List Expr} {g : List S → M (List S)}
theorem callA_run {n : Nat} {B : Hp} {ca : List Addr} {ρ : List S} {cs : Store} {Hf : Hp} {σ : L2.St} {H : Hp} {Q : VK} {ss : List S} {vs : List V} (r : Rel B ca ρ cs Hf σ H) (hn : vs.length = n) (hv : SvsOk ca Hf ss vs)
    (h : Gs X W B ca Hf ρ σ (callA F ss cs) (fun ca' Hf' H' _ rv => ∀ v, RvOk B ca' Hf' H' rv v → Q v H')) : spE X.mg n F vs H Q (WE W σ) := by
  unfold callA at h
  refine ⟨hn, _, ca, cs, Hf, ss, r.enterA hv, ?_⟩
  cases q : F ss cs with
  | no => rw [q] at h; exact h.elim
  | er c cs1 =>
    rw [q] at h
    intro Hf' H' cls ex r' hm
    by_cases hl : cs1.length = cs.length
    · simp only [hl, if_true] at h
      obtain ⟨r2, n2⟩ := r.leaveA ex r'
      exact h ca Hf' H' cls n2 r2 hm
    · simp only [hl, if_false] at h; exact h.elim
  | ok rv cs1 =>
    rw [q] at h
    intro Hf' H' v ex r' hr
    by_cases hl : cs1.length = cs.length
    · simp only [hl, if_true] at h
      obtain ⟨r2, n2⟩ := r.leaveA ex r'
      exact h ca Hf' H' n2 r2 v hr
    · simp only [hl, if_false] at h; exact h.elim
theorem do_fA (h : Okf X.prog X.w X.K X.mg X.base k x ps F) (hr : Room k X.A) (tk : Takes X W)
    (ha : DA X W (e :: es) g) (hlen : ∀ ρ cs ss cs', g ρ cs = .ok ss cs' → ss.length = ps.length) (hl : (e :: es).length = ps.length := by rfl) (hg : Gl X x := by rfl) (hdb : (x == ("__debug__" : Str)) = false := by decide) (he : starEach (e :: es) X.env = (false, eval e X.env) :: starEach es X.env := by rfl) (hpl : (backTo pos (starEach es X.env)).any (·.1) = false := by rfl)
    : DO X W (.Call (.Name x p) (e :: es) [] pos) (eCallA F g) := by
  obtain ⟨f, fd, hm, _, Fk, hb, hk⟩ := h
  obtain ⟨t, pt, kt⟩ := ha
  refine ⟨_, pe_callS (E := WE W) Fk hr hg hm hk hb (passAt tk) pt hdb he hpl, fun B ca ρ cs Hf σ H Q r h => ?_⟩
  cases q : g ρ cs with
  | ok ss cs1 =>
    refine kt B ca ρ cs Hf σ H _ r ?_
    have hss := hlen ρ cs ss cs1 q
    rw [q]
    intro ca1 Hf1 H1 n1 r1 vs hvs
    have h1 : Gs X W B ca1 Hf1 ρ σ (callA F ss cs1) (fun ca' Hf' H' _ rv => ∀ v, RvOk B ca' Hf' H' rv v → Q v H') := by
      have e1 : eCallA F g ρ cs = callA F ss cs1 := bnd_ok q
      rw [← e1]; exact h.fwd n1
    exact callA_run r1 (by rw [← hvs.len]; exact hss) hvs h1
  | er c cs1 =>
    refine kt B ca ρ cs Hf σ H _ r ?_
    rw [q]
    have e1 : eCallA F g ρ cs = .er c cs1 := by unfold eCallA bnd; rw [q]
    rw [e1] at h
    exact h
  | no =>
    have e1 : eCallA F g ρ cs = .no := by unfold eCallA bnd; rw [q]
    rw [e1] at h
    exact h.elim
end
end Dn

set_option Elab.async false
set_option linter.all false
set_option maxRecDepth 100000
set_option maxHeartbeats 1000000
namespace Dn
open PySem L2
open Classical in
noncomputable def stays {α : Type} (j : Nat) (ys : List D) (m : M α) : M α := fun cs => if cs[j]? = some (.lst ys) then m cs else .no
theorem stays_yes {α : Type} {j : Nat} {ys : List D} {m : M α} {cs : Store} (h : cs[j]? = some (.lst ys)) : stays j ys m cs = m cs := by unfold stays; rw [if_pos h]
noncomputable def lcLC (j : Nat) (ys : List D) (tg : D → List S → Option (List S)) (t : List S → M Bool) (f : List S → M S) (ρ : List S) : List D → List D → M Rv
  | [], acc => stays j ys (ret (.own (.lst acc)))
  | x :: xs, acc => stays j ys (match tg x ρ with
    | none => stuck
    | some ρ1 => bnd (noEr (t ρ1)) fun b => if b = true then bnd (noEr (f ρ1)) fun y => (match y with
        | .d d => if acc.length < sizeLine then lcLC j ys tg t f ρ xs (acc ++ [d]) else stuck
        | _ => stuck)
      else lcLC j ys tg t f ρ xs acc)
def iCel (f : List S → M S) (ρ : List S) : M (Nat × List D) := bnd (f ρ) celM
noncomputable def eLcC (it : List S → M (Nat × List D)) (tg : D → List S → Option (List S)) (t : List S → M Bool) (f : List S → M S) (vs : List Nat) (ρ : List S) : M Rv :=
  bnd (it ρ) fun p => lcLC p.1 p.2 tg t f (wipeS ρ vs) p.2 []
/-- what is walked is a cell -/
def DIC (X : Cx) (W : WX) (tg iter : Expr) (f : List S → M (Nat × List D)) : Prop := ∃ wi : TI, PI X tg iter wi ∧ ∀ (B : Hp) (ca : List Addr) (ρ : List S) (cs : Store) (Hf : Hp) (σ : L2.St) (H : Hp) (R : It → Hp → Prop), Rel B ca ρ cs Hf σ H →
  Gs X W B ca Hf ρ σ (f ρ cs) (fun ca' Hf' H' cs' p => ∀ J, (∀ B2 ca2 ρ2 cs2 Hf2 σ2 H2 (i : Nat), Nx ca' Hf' ca2 Hf2 → Rel B2 ca2 ρ2 cs2 Hf2 σ2 H2 → cs2[p.1]? = some (.lst p.2) → i ≤ p.2.length →
      (i = p.2.length → J.stop i H2) ∧ (i < p.2.length → J.go i H2 ∧ ∀ x H3, J.yld i H2 x H3 → ∃ Hf3, Nx ca2 Hf2 ca2 Hf3 ∧ Rel B2 ca2 ρ2 cs2 Hf3 σ2 H3 ∧ ∃ d, p.2[i]? = some d ∧ Dd Hf3 x d)) → R J H') → wi σ H R
section
variable {X : Cx} {W : WX} {a tg : Expr} {fa : List S → M S}
theorem di_cel (ha : DE X W a fa) : DIC X W tg a (iCel fa) := by
  obtain ⟨t, p, k⟩ := ha
  refine ⟨_, pi_list p, fun B ca ρ cs Hf σ H R r h => ?_⟩
  refine k B ca ρ cs Hf σ H _ r (h.bind.mono fun ca1 Hf1 H1 cs1 s n1 r1 h1 v hv => ?_)
  have e : bnd (celM s) ret cs1 = celM s cs1 := by
    unfold bnd ret
    cases celM s cs1 <;> rfl
  rw [← e] at h1
  obtain ⟨j, xs, rfl, e1, h3⟩ := celM_ h1
  obtain ⟨l, hl, rfl⟩ := hv
  obtain ⟨vs, c1, c2⟩ := r1.cell e1 hl
  refine ⟨l, rfl, ⟨vs, .inl (.inl c1)⟩, ?_⟩
  refine (h3.ret_ r1) _ fun B2 ca2 ρ2 cs2 Hf2 σ2 H2 i n2 r2 hs hi => ?_
  have hl2 : ca2[j]? = some l := by
    obtain ⟨u, hu⟩ := n2.pre
    have := (List.getElem?_eq_some_iff.mp hl)
    rw [← hu, List.getElem?_append_left this.1]
    exact hl
  obtain ⟨ws, g1, g2⟩ := r2.cell hs hl2
  refine ⟨fun e => ⟨ws, .inl (.inl g1), by rw [dps_len g2]; omega⟩, fun hi' => ?_⟩
  have hx : xs[i]? = some xs[i] := by simp [hi']
  obtain ⟨w, q1, q2⟩ := dps_get g2 hx
  refine ⟨⟨ws, w, .inl (.inl g1), q1⟩, fun x H3 y => ?_⟩
  obtain ⟨rfl, y⟩ := y
  have y1 := y ws (.inl (.inl g1))
  rw [q1] at y1
  cases y1
  exact ⟨Hf2, Nx.refl, r2, xs[i], hx, q2⟩
end
section
variable {X : Cx} {W : WX} {pos : Pos} {elt tg iter : Expr} {ifs : List Expr} {scope : Scope} {own : List (Str × Nat)} {it : List S → M (Nat × List D)} {g : D → List S → Option (List S)} {t : List S → M Bool} {f : List S → M S}
/-- what a comprehension's loop asks -/
theorem lc_runC {wi : TI} {vs : List Nat} (ki : ∀ (B : Hp) (ca : List Addr) (ρ : List S) (cs : Store) (Hf : Hp) (σ : L2.St) (H : Hp) (R : It → Hp → Prop), Rel B ca ρ cs Hf σ H →
    Gs X W B ca Hf ρ σ (it ρ cs) (fun ca' Hf' H' cs' p => ∀ J, (∀ B2 ca2 ρ2 cs2 Hf2 σ2 H2 (i : Nat), Nx ca' Hf' ca2 Hf2 → Rel B2 ca2 ρ2 cs2 Hf2 σ2 H2 → cs2[p.1]? = some (.lst p.2) → i ≤ p.2.length →
      (i = p.2.length → J.stop i H2) ∧ (i < p.2.length → J.go i H2 ∧ ∀ x H3, J.yld i H2 x H3 → ∃ Hf3, Nx ca2 Hf2 ca2 Hf3 ∧ Rel B2 ca2 ρ2 cs2 Hf3 σ2 H3 ∧ ∃ d, p.2[i]? = some d ∧ Dd Hf3 x d)) → R J H') → wi σ H R)
    {B : Hp} {ca : List Addr} {ρ : List S} {cs : Store} {Hf : Hp} {σ : L2.St} {H : Hp} {Q : VK} (r : Rel B ca ρ cs Hf σ H) (h : Gs X W B ca Hf ρ σ (eLcC it g t f vs ρ cs) (fun ca' Hf' H' _ rv => ∀ v, RvOk B ca' Hf' H' rv v → Q v H')) :
    tLc wi (tgOf g vs) (ttOf X t) (teOf X f) vs σ H Q := by
  refine ki B ca ρ cs Hf σ H _ r (h.bind.mono fun ca1 Hf1 H1 cs1 p n1 r1 h1 J hJ => fun D hD => ?_)
  obtain ⟨jc, xs⟩ := p
  obtain ⟨d1, d2, d3⟩ := r1.newIn hD
  have exn : ∀ vs, Ex B (upd B D (.lst vs)) := fun vs => ex_new d3
  refine ⟨fun i m H2 => m = xs.length - i ∧ i ≤ xs.length ∧ ∃ ca2 cs2 Hf2 acc accV, Nx ca1 Hf1 ca2 Hf2 ∧ Dds Hf2 accV acc ∧ Rel (upd B D (.lst accV)) ca2 ρ cs2 Hf2 σ H2 ∧ Gs X W B ca2 Hf2 ρ σ (lcLC jc xs g t f (wipeS ρ vs) (xs.drop i) acc cs2) (fun ca' Hf' H' _ rv => ∀ v, RvOk B ca' Hf' H' rv v → Q v H'),
    ⟨xs.length, by simp, Nat.zero_le _, ca1, cs1, Hf1, [], [], Nx.refl, .nil, ?_, h1⟩, ?_⟩
  · have r2 := r1.grow (ex_new (o := .lst []) hD)
    refine ⟨r2.ext, r2.len, r2.sl, r2.cells, r2.lenc, r2.nd, r2.off, fun a o e => ?_, fun a e => ?_⟩
    · by_cases q : a = D
      · subst q; rw [upd_same] at e ⊢; exact e
      · rw [upd_ne q] at e ⊢; exact r1.exb a o e
    · by_cases q : a = D
      · subst q; exact ⟨d1, .inl d2⟩
      · rw [upd_ne q] at e ⊢; exact r1.dis a e
  rintro i m H2 ⟨rfl, hi, ca2, cs2, Hf2, acc, accV, n2, da, r2, h2⟩
  have r2B := r2.less (exn accV)
  have hck : cs2[jc]? = some (.lst xs) := by
    apply Classical.byContradiction
    intro z
    cases ed : xs.drop i with
    | nil =>
      rw [ed] at h2
      unfold lcLC stays at h2
      simp only [if_neg z] at h2
      exact h2.elim
    | cons y ys =>
      rw [ed] at h2
      unfold lcLC stays at h2
      simp only [if_neg z] at h2
      exact h2.elim
  obtain ⟨hstop, hgo⟩ := hJ (upd B D (.lst accV)) ca2 ρ cs2 Hf2 σ H2 i n2 r2 hck hi
  by_cases hlt : i < xs.length
  · obtain ⟨go, yl⟩ := hgo hlt
    refine .inr ⟨go, fun H' => i + 1 ≤ xs.length ∧ ∃ ca2 cs2 Hf2 acc accV, Nx ca1 Hf1 ca2 Hf2 ∧ Dds Hf2 accV acc ∧ Rel (upd B D (.lst accV)) ca2 ρ cs2 Hf2 σ H' ∧ Gs X W B ca2 Hf2 ρ σ (lcLC jc xs g t f (wipeS ρ vs) (xs.drop (i + 1)) acc cs2) (fun ca' Hf' H' _ rv => ∀ v, RvOk B ca' Hf' H' rv v → Q v H'),
      fun H' p' => ⟨xs.length - (i + 1), by omega, rfl, p'.1, p'.2⟩, fun x H3 y => ?_⟩
    obtain ⟨Hf3, n3, r3, d, ed, hd⟩ := yl x H3 y
    have ed' : xs.drop i = d :: xs.drop (i + 1) := by
      rw [List.drop_eq_getElem_cons hlt]
      rw [List.getElem?_eq_getElem hlt] at ed
      rw [Option.some.inj ed]
    rw [ed'] at h2
    unfold lcLC at h2
    rw [stays_yes hck] at h2
    cases eg : g d (wipeS ρ vs) with
    | none => rw [eg] at h2; exact h2.elim
    | some ρ1 =>
      rw [eg] at h2
      refine ⟨upd B D (.lst accV), ca2, wipeS ρ vs, ρ1, cs2, Hf3, d, r3.wipe vs, hd, eg, fun σ2 w2 r4 => ⟨w2.trans (wipe_wipe σ vs vs fun _ h => h), ?_⟩⟩
      have h3 := Gs.fwd h2 n3
      obtain ⟨k1, k2, k3⟩ := Gs.noEr_ h3
      refine ⟨upd B D (.lst accV), ca2, ρ1, cs2, Hf3, r4, ?_⟩
      cases et : t ρ1 cs2 with
      | no => exact absurd et k2
      | er c cs' => exact absurd et (k3 c cs')
      | ok b cs3 =>
        have h4 := k1 b cs3 et
        intro ca4 Hf4 H4 n4 r5
        have back := fun {σ' : L2.St} {ρ' : List S} {cs' : Store} {ca' : List Addr} {Hf' H' : Hp} {V : List V} (n : Nx ca2 Hf2 ca' Hf') (r' : Rel (upd B D (.lst V)) ca' ρ' cs' Hf' σ' H') => Rel.slots (ρ' := ρ) (σ' := σ) r' r2.len fun i s e => by
          rcases r2.sl i s e with z | ⟨v, h1, h2⟩
          · exact .inl z
          · exact .inr ⟨v, h1, h2.nx n⟩
        cases b with
        | false =>
          refine ⟨hlt, ca4, cs3, Hf4, acc, accV, (n2.trans n3).trans n4, dps_ex (n3.trans n4).ex da, back (n3.trans n4) r5, ?_⟩
          exact Gs.fwd h4 n4
        | true =>
          have h5 := Gs.fwd h4 n4
          obtain ⟨j1, j2, j3⟩ := Gs.noEr_ h5
          refine ⟨upd B D (.lst accV), ca4, ρ1, cs3, Hf4, r5, ?_⟩
          cases ef : f ρ1 cs3 with
          | no => exact absurd ef j2
          | er c cs' => exact absurd ef (j3 c cs')
          | ok y cs4 =>
            have h6 := j1 y cs4 ef
            intro ca5 Hf5 H5 n5 r6 v hv
            cases y with
            | no => exact h6.elim
            | cel j => exact h6.elim
            | fn a => exact h6.elim
            | d z =>
              have h7 : Gs X W B ca4 Hf4 ρ σ ((if acc.length < sizeLine then lcLC jc xs g t f (wipeS ρ vs) (xs.drop (i + 1)) (acc ++ [z]) else stuck) cs4) _ := h6
              split at h7
              · rename_i hz
                have hl := dps_len da
                refine ⟨accV, r6.exb D _ upd_same, by rw [hl]; exact hz, hlt, ca5, cs4, Hf5, acc ++ [z], accV ++ [v], ((n2.trans n3).trans n4).trans n5, dps_app (dps_ex ((n3.trans n4).trans n5).ex da) (.cons hv .nil), ?_, Gs.fwd h7 n5⟩
                have r7 := back ((n3.trans n4).trans n5) r6
                have dD := r7.disn (a := D) upd_same (fun _ _ z => nomatch z)
                refine ⟨fun a o e => ?_, r7.len, r7.sl, fun j o e => ?_, r7.lenc, r7.nd, r7.off, fun a o e => ?_, fun a e => ?_⟩
                · by_cases q : a = D
                  · subst q; rw [dD.1] at e; cases e
                  · rw [upd_ne q]; exact r7.ext a o e
                · obtain ⟨a, g1, g2⟩ := r7.cells j o e
                  refine ⟨a, g1, g2.at (upd_ne ?_) fun _ _ h => h⟩
                  intro q
                  subst q
                  exact dD.2 (List.mem_of_getElem? g1)
                · by_cases q : a = D
                  · subst q; rw [upd_same] at e ⊢; exact e
                  · rw [upd_ne q] at e ⊢
                    exact r7.exb a o (by rw [upd_ne q]; exact e)
                · by_cases q : a = D
                  · subst q; exact ⟨dD.1, .inl dD.2⟩
                  · rw [upd_ne q] at e
                    have z := r7.dis a (by rw [upd_ne q]; exact e)
                    rw [upd_ne q] at z ⊢
                    exact z
              · exact h7.elim
  · have e : i = xs.length := by omega
    refine .inl ⟨hstop e, ?_⟩
    rw [e, List.drop_length] at h2
    unfold lcLC at h2
    rw [stays_yes hck] at h2
    have h3 := Gs.ret_ (show Gs X W B ca2 Hf2 ρ σ (ret (Rv.own (OC.lst acc)) cs2) (fun ca' Hf' H' _ rv => ∀ v, RvOk B ca' Hf' H' rv v → Q v H') from h2) r2B
    have dD := r2.disn (a := D) upd_same (fun _ _ z => nomatch z)
    exact h3 (.ref D) ⟨D, rfl, ⟨accV, r2.exb D _ upd_same, da⟩, dD.1, dD.2, d3⟩
theorem do_lcC (own : List (Str × Nat)) (hN : X.N.Nodup) (hi : DIC X W tg iter it)
    (hg : ∀ (s : Shared) (H : Hp) (C : Addr) (cl : List (Str × Addr)) (fp : List Addr), DGb (X.blk s H scope (compEnvC scope cl C X.env) fp) (own.map (·.2)) tg g)
    (ht : ∀ (s : Shared) (H : Hp) (C : Addr) (cl : List (Str × Addr)) (fp : List Addr), DTs (X.blk s H scope (compEnvC scope cl C X.env) fp) Wf ifs t)
    (he : ∀ (s : Shared) (H : Hp) (C : Addr) (cl : List (Str × Addr)) (fp : List Addr), DE (X.blk s H scope (compEnvC scope cl C X.env) fp) Wf elt f)
    (hk : blkC X.N X.env.scope scope own = true := by rfl) (hc : X.calm = true := by rfl) (hs : ∀ x, foldedSetIterable iter X.env x = pure x := by intro _; rfl) :
    DO X W (.ListComp elt [⟨tg, iter, ifs, 0⟩] scope pos) (eLcC it g t f (own.map (·.2))) := by
  obtain ⟨wi, pi, ki⟩ := hi
  refine ⟨_, pe_lc (g := tgOf g (own.map (·.2))) (tt := ttOf X t) (te := teOf X f) hc hN pi (blkOk_by hk) (fun s H C cl fp => ?_) (fun s H C cl fp => ?_) (fun s H C cl fp => ?_) hs, fun B ca ρ cs Hf σ H Q r h => lc_runC ki r h⟩
  · obtain ⟨t', p, k⟩ := hg s H C cl fp
    exact ⟨fun pins s σ H v u Q I rv ⟨B, ca, ρ, ρ', cs, Hf, d, r, hd, e, q⟩ => p.run pins s σ H v u Q I rv (k B ca ρ ρ' cs Hf σ H v d Q r hd e q)⟩
  · obtain ⟨t', p, k⟩ := ht s H C cl fp
    exact ⟨fun pins s σ H Q I ⟨B, ca, ρ, cs, Hf, r, h⟩ => p.run pins s σ H Q I (k B ca ρ cs Hf σ H Q r h)⟩
  · obtain ⟨t', p, k⟩ := he s H C cl fp
    exact ⟨fun pins s σ H Q I ⟨B, ca, ρ, cs, Hf, r, h⟩ => p.run pins s σ H Q I (k B ca ρ cs Hf σ H Q r h)⟩
end
open Classical in
noncomputable def gForC (j : Nat) (ys : List D) (tg : D → List S → Option (List S)) (body : G) : List D → G
  | [], ρ, cs => if cs[j]? = some (.lst ys) then .nx ρ cs else .no
  | x :: xs, ρ, cs => if cs[j]? = some (.lst ys) then (match tg x ρ with
    | none => .no
    | some ρ1 => match body ρ1 cs with
      | .nx ρ' cs' => gForC j ys tg body xs ρ' cs'
      | .ct ρ' cs' => gForC j ys tg body xs ρ' cs'
      | .bk ρ' cs' => .nx ρ' cs'
      | .rt r cs' => .rt r cs'
      | .er c ρ' cs' => .er c ρ' cs'
      | .no => .no) else .no
noncomputable def sForC (tg : D → List S → Option (List S)) (it : List S → M (Nat × List D)) (body : G) : G := fun ρ => stp (it ρ) (fun p cs => gForC p.1 p.2 tg body p.2 ρ cs) ρ
section
variable {X : Cx} {W : WX} {a b tg : Expr} {fa fb : List S → M S} {pos : Pos}
theorem dst_forC {body : List Stmt} {g : D → List S → Option (List S)} {it : List S → M (Nat × List D)} {gb : G} (hp : PassesOwn (model X.prog X.w) X.A X.env X.xe) (hi : DIC X W tg a it) (hg : DG X tg g) (hb : DSs X W body gb) (hc : X.calm = true := by rfl)
    (hs : ∀ x, foldedSetIterable a X.env x = pure x := by intro _; rfl) : DSt X W (.For tg a body [] pos) (sForC g it gb) := by
  obtain ⟨wi, pi, ki⟩ := hi
  obtain ⟨tgt, pg, kg⟩ := hg
  obtain ⟨tb, pb, kb⟩ := hb
  refine ⟨_, ps_for hp hc pi pg pb hs, fun B ca ρ cs Hf σ H En r h => ?_⟩
  refine ki B ca ρ cs Hf σ H _ r (h.stp_.mono fun ca1 Hf1 H1 cs1 p n1 r1 h1 J hJ => ?_)
  obtain ⟨jc, xs⟩ := p
  refine ⟨fun i m σ2 H2 => m = xs.length - i ∧ i ≤ xs.length ∧ ∃ ca2 ρ2 cs2 Hf2, Nx ca1 Hf1 ca2 Hf2 ∧ Rel B ca2 ρ2 cs2 Hf2 σ2 H2 ∧ GO X W B ca2 Hf2 En (gForC jc xs g gb (xs.drop i) ρ2 cs2), ⟨xs.length, by simp, Nat.zero_le _, ca1, ρ, cs1, Hf1, Nx.refl, r1, h1⟩, ?_⟩
  rintro i m σ2 H2 ⟨rfl, hi, ca2, ρ2, cs2, Hf2, n2, r2, h2⟩
  have hck : cs2[jc]? = some (.lst xs) := by
    apply Classical.byContradiction
    intro z
    cases ed : xs.drop i with
    | nil =>
      rw [ed] at h2
      unfold gForC at h2
      simp only [if_neg z] at h2
      exact h2.elim
    | cons y ys =>
      rw [ed] at h2
      unfold gForC at h2
      simp only [if_neg z] at h2
      exact h2.elim
  obtain ⟨hstop, hgo⟩ := hJ B ca2 ρ2 cs2 Hf2 σ2 H2 i n2 r2 hck hi
  by_cases hlt : i < xs.length
  · obtain ⟨go, yl⟩ := hgo hlt
    refine .inr ⟨go, fun σ' H' => i + 1 ≤ xs.length ∧ ∃ ca2 ρ2 cs2 Hf2, Nx ca1 Hf1 ca2 Hf2 ∧ Rel B ca2 ρ2 cs2 Hf2 σ' H' ∧ GO X W B ca2 Hf2 En (gForC jc xs g gb (xs.drop (i + 1)) ρ2 cs2), fun σ' H' p' => ⟨xs.length - (i + 1), by omega, rfl, p'.1, p'.2⟩, fun x H3 y => ?_⟩
    obtain ⟨Hf3, n3, r3, d, ed, hd⟩ := yl x H3 y
    have ed' : xs.drop i = d :: xs.drop (i + 1) := by
      rw [List.drop_eq_getElem_cons hlt]
      rw [List.getElem?_eq_getElem hlt] at ed
      rw [Option.some.inj ed]
    rw [ed'] at h2
    have h2' : GO X W B ca2 Hf2 En (match g d ρ2 with
      | none => .no
      | some ρ1 => match gb ρ1 cs2 with
        | .nx ρ' cs' => gForC jc xs g gb (xs.drop (i + 1)) ρ' cs'
        | .ct ρ' cs' => gForC jc xs g gb (xs.drop (i + 1)) ρ' cs'
        | .bk ρ' cs' => .nx ρ' cs'
        | .rt r cs' => .rt r cs'
        | .er c ρ' cs' => .er c ρ' cs'
        | .no => .no) := by unfold gForC at h2; simp only [if_pos hck] at h2; exact h2
    cases eg : g d ρ2 with
    | none => rw [eg] at h2'; exact h2'.elim
    | some ρ1 =>
      rw [eg] at h2'
      have h3 : GO X W B ca2 Hf2 En (match gb ρ1 cs2 with
        | .nx ρ' cs' => gForC jc xs g gb (xs.drop (i + 1)) ρ' cs'
        | .ct ρ' cs' => gForC jc xs g gb (xs.drop (i + 1)) ρ' cs'
        | .bk ρ' cs' => .nx ρ' cs'
        | .rt r cs' => .rt r cs'
        | .er c ρ' cs' => .er c ρ' cs'
        | .no => .no) := h2'
      refine kg B ca2 ρ2 ρ1 cs2 Hf3 σ2 H3 x d _ r3 hd eg fun σ4 r4 => ?_
      refine kb B ca2 ρ1 cs2 Hf3 σ4 H3 _ r4 ?_
      have h4 := GO.fwd h3 n3
      cases eb : gb ρ1 cs2 with
      | nx ρ' cs' => rw [eb] at h4; exact fun ca' Hf' σ' H' n' r' => ⟨hlt, ca', ρ', cs', Hf', (n2.trans n3).trans n', r', GO.fwd h4 n'⟩
      | ct ρ' cs' => rw [eb] at h4; exact fun ca' Hf' σ' H' n' r' => ⟨hlt, ca', ρ', cs', Hf', (n2.trans n3).trans n', r', GO.fwd h4 n'⟩
      | bk ρ' cs' => rw [eb] at h4; exact fun ca' Hf' σ' H' n' r' => h4 ca' Hf' σ' H' n' r'
      | rt v cs' => rw [eb] at h4; exact h4
      | er c ρ' cs' => rw [eb] at h4; exact h4
      | no => rw [eb] at h4; exact h4.elim
  · have e : i = xs.length := by omega
    refine .inl ⟨hstop e, ?_⟩
    rw [e, List.drop_length] at h2
    unfold gForC at h2
    simp only [if_pos hck] at h2
    exact GO.nx_ (show GO X W B ca2 Hf2 En (.nx ρ2 cs2) from h2) r2
end
end Dn

set_option Elab.async false
set_option linter.all false
set_option maxRecDepth 100000
set_option maxHeartbeats 1000000
namespace Dn
open PySem L2 PySem.W PyProof.Rows

/-- a tuple in the heap with two whole numbers ahead -/
def HeadIs2 (h : Heap) (v : Value) (z : Int) : Prop := ∃ i j a o t t' xs ys n, z = i * 18446744073709551616 + j ∧ (0 ≤ j ∧ j < 4611686018427387904) ∧ v = .ref a ∧ h.get? a = some o ∧ o.cls = .type "tuple" ∧ o.data = .seq xs n ∧ xs.toList = Value.int i t :: Value.int j t' :: ys
theorem HeadIs2.keeps {h g : Heap} {v : Value} {i : Int} (x : HeadIs2 h v i) (k : ∀ b o, h.get? b = some o → o.cls = .type "tuple" → g.get? b = some o) : HeadIs2 g v i :=
  let ⟨i, j, a, o, t, t', xs, ys, n, e0, e1, e, ho, hc, r⟩ := x; ⟨i, j, a, o, t, t', xs, ys, n, e0, e1, e, k a o ho hc, hc, r⟩
section
variable {pr : Program} {w : World} {A : Around} {s : Shared}
end
end Dn

set_option Elab.async false
set_option linter.all false
set_option maxRecDepth 100000
set_option maxHeartbeats 1000000
namespace Dn
open PySem L2
def rOwnL : List V → Hp → VK → Prop := fun vs H Q => ∃ (B : Hp) (ca : List Addr) (ρ : List S) (cs : Store) (Hf : Hp) (σ : L2.St) (x : V) (xs : List D), vs = [x] ∧ Rel B ca ρ cs Hf σ H ∧ (Lv Hf H x (.list xs) ∨ Lv Hf H x (.tuple xs)) ∧
  ∀ v Hf' H', Ex Hf Hf' → Rel B ca ρ cs Hf' σ H' → RvOk B ca Hf' H' (.own (.lst xs)) v → Q v H'
section
variable {X : Cx} {W : WX} {e : Expr} {fe : List S → M S}
theorem listO_ok : CallR X (.type "list") rOwnL := by
  rintro pins s σ' H vs us Q I rv ⟨B, ca, ρ, cs, Hf, σ, x, xs, rfl, r, hx, q⟩
  have fin : ∀ (us : List V) (l : Addr), Dds Hf us xs → H l = none → Q (.ref l) (upd H l (.lst us)) := fun us l g2 hl => by
    obtain ⟨d1, d2, d3⟩ := r.newIn hl
    exact q _ Hf _ (fun _ _ h => h) (r.grow (ex_new hl)) ⟨l, rfl, ⟨us, upd_same, g2⟩, d1, d2, d3⟩
  rcases hx with hx | hx
  · obtain ⟨a, ws, rfl, g1, g2⟩ := hx.lst
    exact call_list_of pins s σ' H _ us Q I rv ⟨a, ws, rfl, .inl (.inl g1), fun l hl => fin ws l g2 hl⟩
  · obtain ⟨a, ws, rfl, g1, g2⟩ := hx.tup
    exact call_list_of pins s σ' H _ us Q I rv ⟨a, ws, rfl, .inr (.inl g1), fun l hl => fin ws l g2 hl⟩
def listO : D → Option (List D)
  | .list xs => some xs
  | .tuple xs => some xs
  | _ => none
def eOwnL (fe : List S → M S) (ρ : List S) : M Rv := bnd (fe ρ) fun s => bnd (vwM s) fun d => bnd (ofO (listO d)) fun xs => ret (.own (.lst xs))
theorem do_listO {px pos : Pos} (hm : X.mg "list" = none) (hv : bootBuiltins "list" = some (.type "list")) (ha : DE X W e fe)
    (hs : starEach [e] X.env = (false, eval e X.env) :: starEach [] X.env := by rfl) (hg : Gl X "list" := by rfl)
    (hpl : (backTo pos (starEach [] X.env)).any (·.1) = false := by rfl) : DO X W (.Call (.Name "list" px) [e] [] pos) (eOwnL fe) := by
  obtain ⟨t, pt, kt⟩ := ha
  refine ⟨_, pe_callTy listO_ok hg hm hv (pa_cons pt pa_nil hs) (by decide) (by decide) hs hpl, fun B ca ρ cs Hf σ H Q r h => ?_⟩
  show t σ H fun x H1 => rOwnL [x] H1 Q
  refine kt B ca ρ cs Hf σ H _ r (h.bind.mono fun ca1 Hf1 H1 cs1 s n1 r1 h1 x hx => ?_)
  obtain ⟨da, e1, h2⟩ := vwM_ r1 h1
  obtain ⟨zs, hz, h3⟩ := ofOb_ h2
  refine ⟨B, ca1, ρ, cs1, Hf1, σ, x, zs, rfl, r1, ?_, fun u Hf' H' ex r' hr' => ?_⟩
  · unfold listO at hz
    split at hz
    · cases hz; exact .inl (vw_ok r1 hx e1)
    · cases hz; exact .inr (vw_ok r1 hx e1)
    · cases hz
  · exact h3 ca1 Hf' H' ⟨List.prefix_refl _, ex⟩ r' u hr'
end
section
variable {X : Cx} {W : WX} {i o : Expr} {fi fo : List S → M S} {pos : Pos}
end
end Dn

set_option Elab.async false
set_option linter.all false
set_option maxRecDepth 100000
set_option maxHeartbeats 1000000
namespace Dn
open PySem L2
section
variable {X : Cx} {W : WX} {B B' : Hp} {ca : List Addr} {Hf H : Hp} {ρ : List S} {σ : L2.St} {cs : Store} {α : Type}
theorem Gs.less {res : Res α} {P : List Addr → Hp → Hp → Store → α → Prop} (h : Gs X W B ca Hf ρ σ res P) (e : Ex B B') : Gs X W B' ca Hf ρ σ res P := by
  cases res with
  | ok a cs' => exact fun ca' Hf' H' n r => h ca' Hf' H' n (r.less e)
  | er c cs' => exact fun ca' Hf' H' cls n r => h ca' Hf' H' cls n (r.less e)
  | no => exact h
theorem Rel.banned {o : HO} {p : Addr} (r : Rel B ca ρ cs Hf σ H) (hp : H p = none) : Rel (upd B p o) ca ρ cs Hf σ (upd H p o) := by
  obtain ⟨d1, d2, d3⟩ := r.newIn hp
  have r2 := r.grow (ex_new (o := o) hp)
  refine ⟨r2.ext, r2.len, r2.sl, r2.cells, r2.lenc, r2.nd, r2.off, fun a u e => ?_, fun a e => ?_⟩
  · by_cases q : a = p
    · subst q; rw [upd_same] at e ⊢; exact e
    · rw [upd_ne q] at e ⊢; exact r.exb a u e
  · by_cases q : a = p
    · subst q; exact ⟨d1, .inl d2⟩
    · rw [upd_ne q] at e ⊢; exact r.dis a e
theorem Rel.unban {o o' : HO} {p : Addr} (r : Rel (upd B p o) ca ρ cs Hf σ H) (hb : B p = none) (hn : ∀ b u, o ≠ .frz b u := by intro _ _ z; cases z) : Rel B ca ρ cs Hf σ (upd H p o') ∧ Hf p = none ∧ p ∉ ca := by
  have dD := r.disn (a := p) upd_same hn
  refine ⟨⟨fun a u e => ?_, r.len, r.sl, fun j u e => ?_, r.lenc, r.nd, r.off, fun a u e => ?_, fun a e => ?_⟩, dD.1, dD.2⟩
  · by_cases q : a = p
    · subst q; rw [dD.1] at e; cases e
    · rw [upd_ne q]; exact r.ext a u e
  · obtain ⟨a, g1, g2⟩ := r.cells j u e
    refine ⟨a, g1, g2.at (upd_ne ?_) fun _ _ h => h⟩
    intro q
    subst q
    exact dD.2 (List.mem_of_getElem? g1)
  · by_cases q : a = p
    · subst q; rw [hb] at e; cases e
    · rw [upd_ne q]; exact r.exb a u (by rw [upd_ne q]; exact e)
  · by_cases q : a = p
    · subst q; exact absurd hb e
    · have z := r.dis a (by rw [upd_ne q]; exact e)
      rw [upd_ne q] at z
      exact z
end
/-- {k: v} -/
def eDic1 (fk fv : List S → M S) (ρ : List S) : M Rv := bnd (fk ρ) fun k => bnd (fv ρ) fun v => bnd (keyM k) fun y => match v with
  | .d x => ret (.own (.dK [(y, x)]))
  | _ => stuck
def eLst2 (fa : List S → M S) (fo : List S → M Rv) (ρ : List S) : M Rv := bnd (fa ρ) fun a => bnd (fo ρ) fun r => match a, r with
  | .d x, .own (.lst xs) => ret (.pr x xs)
  | _, _ => stuck
def gTry0 (g : G) : G := fun ρ cs => match g ρ cs with
  | .er _ _ _ => .no
  | o => o
/-- sorted(d), the keys whole numbers -/
def eSortKI (fo : List S → M S) (ρ : List S) : M S := bnd (fo ρ) fun o => bnd (dicM o) fun p => match sortKI (p.2.map (·.1)) with
  | some ks => if ks.length < 64 then ret (.d (.list ((PySem.W.sortI ks).map .int))) else stuck
  | none => stuck
section
variable {X : Cx} {W : WX} {a o k v : Expr} {fa fk fv fe : List S → M S} {fo : List S → M Rv} {pos p : Pos}
/-- str([x, c]), a cell among them -/
def eStrL2 (fa fb : List S → M S) (ρ : List S) : M S := bnd (fa ρ) fun a => bnd (fb ρ) fun b => bnd (vwM a) fun x => bnd (vwM b) fun y => bnd (ofO (strLG [.list [x, y]])) fun d => ret (.d d)
/-- xs[::-1], an own list -/
def eOwnR (fa : List S → M S) (ρ : List S) : M Rv := bnd (fa ρ) fun s => bnd (vwM s) fun d => match d with
  | .list xs => if xs.length ≤ sizeLine then ret (.own (.lst xs.reverse)) else stuck
  | _ => stuck
end
end Dn

set_option Elab.async false
set_option linter.all false
set_option maxRecDepth 100000
set_option maxHeartbeats 1000000
namespace Dn
open PySem L2
section
variable {κ β : Type} [DecidableEq κ]
def gvK (kvs : List (κ × β)) (k : κ) : Option β := (kvs.find? fun p => decide (p.1 = k)).map (·.2)
def gpK (kvs : List (κ × β)) (k : κ) (x : β) : List (κ × β) := if (kvs.any fun p => decide (p.1 = k)) = true then kvs.map (fun p => if p.1 = k then (p.1, x) else p) else kvs ++ [(k, x)]
variable {R : V → β → Prop}
end
def eDicC (_ : List S) : M Rv := ret (.own (.dC []))
def eDicU (_ : List S) : M Rv := ret (.own (.dU []))
def kysM : List D → Option (List Key)
  | [] => some []
  | x :: r => match kyD x, kysM r with
    | some k, some ks => some (k :: ks)
    | _, _ => none
/-- a tuple that is to be a key -/
def eTk (g : List S → M (List S)) (ρ : List S) : M Rv := bnd (g ρ) fun as => bnd (ofO (asD as)) fun xs => bnd (ofO (kysM xs)) fun ks => if ks.length ≤ sizeLine then ret (.own (.tk ks)) else stuck
def eIfO (t : List S → M Bool) (f g : List S → M Rv) (ρ : List S) : M Rv := bnd (t ρ) fun b => if b = true then f ρ else g ρ
/-- return [c, x], c a cell -/
def eCp (fa fb : List S → M S) (ρ : List S) : M Rv := bnd (fa ρ) fun a => bnd (fb ρ) fun b => match a, b with
  | .cel j, .d x => ret (.cp j x)
  | _, _ => stuck
def gtL (gs : List D → List S → Option (List S)) (d : D) (ρ : List S) : Option (List S) := match d with
  | .list xs => gs xs ρ
  | _ => none
section
variable {X : Cx} {W : WX} {B : Hp} {ca : List Addr} {Hf H : Hp} {ρ : List S} {σ : L2.St} {cs : Store} {β : Type} {P : List Addr → Hp → Hp → Store → β → Prop}
end
section
variable {X : Cx} {W : WX} {a b c o i e : Expr} {es : List Expr} {fa fb fo fi : List S → M S} {fe f g : List S → M Rv} {ga : List S → M (List S)} {pos pos' p : Pos}
theorem do_cp (ha : DE X W a fa) (hb : DE X W b fb) (na : starEach [a, b] X.env = (false, eval a X.env) :: starEach [b] X.env := by rfl) (nb : starEach [b] X.env = (false, eval b X.env) :: starEach [] X.env := by rfl) : DO X W (.List [a, b] pos) (eCp fa fb) := by
  obtain ⟨ta, pa, ka⟩ := ha
  obtain ⟨tb, pb, kb⟩ := hb
  refine ⟨_, pe_lst (pa_cons pa (pa_cons pb pa_nil nb) na), fun B ca ρ cs Hf σ H Q r h => ?_⟩
  refine ka B ca ρ cs Hf σ H _ r (h.bind.mono fun ca1 Hf1 H1 cs1 s1 n1 r1 h1 x hx => ?_)
  refine kb B ca1 ρ cs1 Hf1 σ H1 _ r1 (h1.bind.mono fun ca2 Hf2 H2 cs2 s2 n2 r2 h2 y hy => ?_)
  cases s1 with
  | cel j =>
    cases s2 with
    | d z =>
      obtain ⟨l, hl, rfl⟩ := hx.nx n2
      refine ⟨by show (2 : Nat) ≤ sizeLine; rw [sizeLine_eq]; omega, fun p hp => ?_⟩
      obtain ⟨m1, m2, m3⟩ := r2.newIn hp
      exact h2 ca2 Hf2 _ Nx.refl (r2.grow (ex_new hp)) (.ref p) ⟨p, l, y, rfl, upd_same, hl, hy, m1, m2, m3⟩
    | _ => exact h2.elim
  | _ => cases s2 <;> exact h2.elim
theorem dg_lst {es : List Expr} {k : Nat} {gs : List D → List S → Option (List S)} (n : Nat) (hs : DGs X es gs) (hl : ∀ ds ρ ρ', gs ds ρ = some ρ' → ds.length = n) (hc : X.calm = true := by rfl)
    (hn : (assignEach es X.env).length = n := by rfl) (hst : (assignEach es X.env).findIdx? (·.1) = none := by rfl) : DG X (.Tuple es k pos) (gtL gs) := by
  obtain ⟨u, q, l⟩ := hs
  refine ⟨_, pg_lst hc q hn hst, fun B ca ρ ρ' cs Hf σ H v d Q r hv e qq => ?_⟩
  unfold gtL at e
  split at e
  · rename_i xs
    cases hv with
    | lst h1 h2 => exact ⟨_, _, rfl, .inl (rd_ex r.ext h1), (dps_len h2).trans (hl _ _ _ e), l B ca ρ ρ' cs Hf σ H _ _ Q r h2 e qq⟩
  · cases e
end
end Dn

set_option Elab.async false
set_option linter.all false
set_option maxRecDepth 100000
set_option maxHeartbeats 1000000
namespace Dn
open PySem L2 PySem.Spec PyProof.Rows
section
variable {X : Cx}
end
section
variable {X : Cx} {W : WX} {e i : Expr} {fe fi : List S → M S} {px pos pos2 : Pos}
end
structure DfnA (K : PySem.W.Frag) (mg : Str → Option Value) (x y : Str) (st : Stmt) (ps : List Str) : Prop where
  g : mg x = some (.ref (He.ga K x))
  d : ∃ fd, FunD K y y (defArgs st) (defBody st) (defScope st) [] [] (He.ga K x) fd ∧ Binds K fd ps []
section
variable {P : Program} {w : World} {K : PySem.W.Frag} {mg : Str → Option Value} {base : Heap} {k : Nat} {x y : Str} {ps N : List Str} {st : Stmt}
theorem DfnA.ok (T : DfnA K mg x y st ps) (sc : FnScope N ps (defScope st)) (m : Nat) (hm : N.length = ps.length + m) {g : G}
    (hbody : ∀ (cdv : Value) (A : Around) (outer : List Env) (s : Shared) (H : Hp) (E : XK), Room k (A.deeper (PyProof.Rows.envOfC y (defScope st) s.heap.objs.size (He.ga K x) cdv)) → Takes (BX P w K mg base N y (defScope st) (He.ga K x) cdv A outer s H E) (BW E) →
      PassesOwn (model P w) (BX P w K mg base N y (defScope st) (He.ga K x) cdv A outer s H E).A (BX P w K mg base N y (defScope st) (He.ga K x) cdv A outer s H E).env (BX P w K mg base N y (defScope st) (He.ga K x) cdv A outer s H E).xe → DSs (BX P w K mg base N y (defScope st) (He.ga K x) cdv A outer s H E) (BW E) (defBody st) g) :
    Okf P w K mg base (k + 1) x ps (runG m g) := by
  obtain ⟨h1, fd, h2, h3⟩ := T
  exact ⟨He.ga K x, fd, h1, rfl, def_ok h2 sc m hm hbody, h3, h2.kp⟩
end
section
variable {fa : List He.Fa} {fn : List He.DefD} {K : PySem.W.Frag} {mg : Str → Option Value} {h : Heap}
end
end Dn

set_option Elab.async false
set_option linter.all false
set_option maxRecDepth 100000
set_option maxHeartbeats 1000000
namespace Dn
open PySem L2
open Classical in
section
variable {B : Hp} {ca : List Addr} {ρ : List S} {cs : Store} {Hf H : Hp} {σ : L2.St} {a : Addr}
end
section
variable {X : Cx} {W : WX} {tg : Expr} {pos px : Pos}
end
section
variable {X : Cx} {W : WX} {B : Hp} {ca : List Addr} {Hf H : Hp} {ρ : List S} {σ : L2.St} {cs : Store} {β : Type} {P : List Addr → Hp → Hp → Store → β → Prop}
end
section
variable {X : Cx} {W : WX} {o i : Expr} {fo fi : List S → M S} {pos : Pos}
end
section
variable {X : Cx} {W : WX}
end
end Dn

set_option Elab.async false
set_option linter.all false
set_option maxRecDepth 100000
set_option maxHeartbeats 1000000
namespace L2
open PySem PySem.Spec PyProof.Rows
section
variable {X : Cx} {CX : CXT} {k : Nat} {f C : Addr} {fd : FuncData} {ps : List Str} {sp : Sp} {E : St → XK} {x m : Str} {p pos apos : Pos} {e o : Expr} {es : List Expr} {ta : TE} {t : TA}
def tMthW (C : Addr) (m : Str) (sp : Sp) (E : St → XK) (ta : TE) (t : TA) : TE := fun σ H Q => ta σ H fun x H1 => ∃ a dx fs, x = .ref a ∧ H1 a = some (.ins C dx fs) ∧ fs.lookup m = none ∧ t σ H1 fun vs H2 => sp (.ref a :: vs) H2 Q (E σ)
theorem pe_mthW {pl : Sem Bool} (he : PE X o ta) (c : Cls X.K C) (hm : Meth X.K C m f) (F : FnOk X.prog X.w X.K X.mg X.base CX k f fd ps sp) (hr : Room k X.A) (hb : Binds X.K fd ps []) (hx : ∀ σ, PassesAt CX X σ (E σ)) (ha : PA X (e :: es) t)
    (hst : starEach (e :: es) X.env = (false, eval e X.env) :: starEach es X.env := by rfl) (hpl : (backTo pos (starEach es X.env)).any (·.1) = false := by rfl)
    (ht : eval (.Call (.Attribute o m apos) (e :: es) [] pos) X.env = (do
      let ov ← eval o X.env
      standAt apos.atName
      let (f, first) ← holding [ov] (getMethod ov m pl)
      callWith pos f first (backTo pos (starEach (e :: es) X.env)) (backToKw pos (keywordEach [] X.env))) := by rfl) :
    PE X (.Call (.Attribute o m apos) (e :: es) [] pos) (tMthW C m sp E ta t) := by
  refine ⟨fun pins s σ H Q I h => ?_⟩
  refine PySem.W.methodCall_KW (pl := pl) (thn (he.run pins s σ H _ I h) fun u s1 ⟨x, H1, I1, rx, a, dx, fs, ex, ea, l, q⟩ => ?_) ht
  subst ex
  obtain rfl : u = Value.ref a := rx
  refine getmeth_ok I1 ea c hm l ?_
  refine PySem.W.callWith_K (first := [.ref a]) (h₀ := X.base) I.ok.mod.kin hm.kp (thn (ha.run pos pins s1 σ H1 _ I1 q) fun us s2 ⟨vs, H2, I2, r, q2⟩ => ⟨I2.kIn, ?_⟩) hst hpl
  exact run_fnS (us := .ref a :: us) (vs := .ref a :: vs) F hr hb (hx σ) I2 (.cons rfl r) q2
theorem pe_mth0W {pl : Sem Bool} (he : PE X o ta) (c : Cls X.K C) (hm : Meth X.K C m f) (F : FnOk X.prog X.w X.K X.mg X.base CX k f fd ps sp) (hr : Room k X.A) (hb : Binds X.K fd ps []) (hx : ∀ σ, PassesAt CX X σ (E σ))
    (ht : eval (.Call (.Attribute o m apos) [] [] pos) X.env = (do
      let ov ← eval o X.env
      standAt apos.atName
      let (f, first) ← holding [ov] (getMethod ov m pl)
      callWith pos f first (backTo pos (starEach [] X.env)) (backToKw pos (keywordEach [] X.env))) := by rfl) :
    PE X (.Call (.Attribute o m apos) [] [] pos) (tMthW C m sp E ta tNil) := by
  refine ⟨fun pins s σ H Q I h => ?_⟩
  refine PySem.W.methodCall_KW (pl := pl) (thn (he.run pins s σ H _ I h) fun u s1 ⟨x, H1, I1, rx, a, dx, fs, ex, ea, l, q⟩ => ?_) ht
  subst ex
  obtain rfl : u = Value.ref a := rx
  refine getmeth_ok I1 ea c hm l ?_
  exact PySem.W.callWith_K0 (first := [.ref a]) I1.kIn hm.kp (run_fnS (us := [.ref a]) (vs := [.ref a]) F hr hb (hx σ) I1 (.cons rfl .nil) q)
theorem run_mkW {pins : List (Addr × Obj)} {σ : St} {H : Hp} {s : Shared} {Q : VK} {us : List Value} {vs : List V} (M : Mk X.K C f) (F : FnOk X.prog X.w X.K X.mg X.base CX k f fd ps sp) (hr : Room (k + 1) X.A) (hb : Binds X.K fd ps [])
    (hx : PassesAt CX X σ (E σ)) (I : Inv X pins σ H s) (r : Vals vs us)
    (h : ∀ x dx, H x = none → H dx = none → dx ≠ x → sp (.ref x :: vs) (upd (upd H dx (.own x)) x (.ins C dx [])) (fun v H2 => v = .non ∧ Q (.ref x) H2) (E σ)) :
    wpAny (model X.prog X.w) X.A (call (.ref C) us) (EP X pins σ Q) X.xe s := by
  have hq := h (s.heap.objs.size + 1) s.heap.objs.size (I.hok.fresh (Nat.le_succ _)) (I.hok.fresh (Nat.le_refl _)) (Nat.ne_of_lt (Nat.lt_succ_self _))
  have I2 := Inv.made (C := C) I
  have r2 : Vals (V.ref (s.heap.objs.size + 1) :: vs) (Value.ref (s.heap.objs.size + 1) :: us) := .cons rfl r
  have hl : (Value.ref (s.heap.objs.size + 1) :: us).length = ps.length := by
    have e := r2.length
    rw [F.len _ _ _ _ hq] at e
    exact e.symm
  have b := hb _ (Value.ref (s.heap.objs.size + 1) :: us) I2.kIn (by rw [List.append_nil]; exact hl)
  rw [List.append_nil] at b
  refine wpAny_call (make_map (f := f) I.kIn M.makes M.init (beq_iff_eq.mp M.fn) (codeAny_mono (F.run _ X.stack _ _ ⟨Value.ref (s.heap.objs.size + 1) :: us, []⟩ (Value.ref (s.heap.objs.size + 1) :: us) _ _ (E σ) (hr.make C us [])
    (I2.env0.make C us []) b r2 hq) fun r s' hq' => ?_))
  cases r with
  | error e => exact hx pins _ _ e s' I2 hq'
  | ok fl =>
    cases fl with
    | ret u =>
      obtain ⟨v, H', I3, rv, ev, q3⟩ := I2.after hq'
      subst ev
      exact ⟨rv, ⟨V.ref (s.heap.objs.size + 1), H', I3, rfl, q3⟩⟩
    | next => exact False.elim hq'
    | brk => exact False.elim hq'
    | cont => exact False.elim hq'
def tMkW (C : Addr) (sp : Sp) (E : St → XK) (t : TA) : TE := fun σ H Q => t σ H fun vs H1 => ∀ x dx, H1 x = none → H1 dx = none → dx ≠ x →
  sp (.ref x :: vs) (upd (upd H1 dx (.own x)) x (.ins C dx [])) (fun v H2 => v = .non ∧ Q (.ref x) H2) (E σ)
theorem pe_mkW (M : Mk X.K C f) (F : FnOk X.prog X.w X.K X.mg X.base CX k f fd ps sp) (hr : Room (k + 1) X.A) (hg : Gl X x) (hm : X.mg x = some (.ref C)) (hb : Binds X.K fd ps []) (hx : ∀ σ, PassesAt CX X σ (E σ))
    (ha : PA X (e :: es) t) (hdb : (x == ("__debug__" : Str)) = false := by decide) (he : starEach (e :: es) X.env = (false, eval e X.env) :: starEach es X.env := by rfl) (hpl : (backTo pos (starEach es X.env)).any (·.1) = false := by rfl) :
    PE X (.Call (.Name x p) (e :: es) [] pos) (tMkW C sp E t) := by
  refine ⟨fun pins s σ H Q I h => ?_⟩
  refine wpAny_Call_Name_kw (ld_glob I hg hm ?_ hdb)
  refine PySem.W.callWith_K (h₀ := X.base) I.ok.mod.kin M.kp (thn (ha.run pos pins s σ H _ I h) fun us s1 ⟨vs, H1, I1, r, q⟩ => ⟨I1.kIn, ?_⟩) he hpl
  exact run_mkW M F hr hb (hx σ) I1 r q
end
end L2
namespace Dn
open PySem L2
def putFS (f : Str) (s : S) : List (Str × S) → List (Str × S)
  | [] => [(f, s)]
  | (g, x) :: r => if g = f then (g, s) :: r else (g, x) :: putFS f s r
abbrev PrF (ca : List Addr) (Hf : Hp) : List (Str × V) → List (Str × S) → Prop := Paired (fun (p : Str × V) (q : Str × S) => p.1 = q.1 ∧ SvOk ca Hf q.2 p.2)
section
variable {ca : List Addr} {Hf : Hp}
theorem prF_get (f : Str) : ∀ {vs : List (Str × V)} {fs : List (Str × S)}, PrF ca Hf vs fs → (vs.lookup f = none ∧ fs.lookup f = none) ∨ ∃ v s, vs.lookup f = some v ∧ fs.lookup f = some s ∧ SvOk ca Hf s v
  | _, _, .nil => .inl ⟨rfl, rfl⟩
  | (g1, v) :: vs, (g2, s) :: fs, .cons h t => by
    have h1 : g1 = g2 := h.1
    have h2 : SvOk ca Hf s v := h.2
    subst h1
    rw [List.lookup_cons, List.lookup_cons]
    cases e : f == g1 with
    | true => exact .inr ⟨v, s, rfl, rfl, h2⟩
    | false => exact prF_get f t
theorem prF_put (f : Str) {v : V} {s : S} (hv : SvOk ca Hf s v) : ∀ {vs : List (Str × V)} {fs : List (Str × S)}, PrF ca Hf vs fs → PrF ca Hf (putF f v vs) (putFS f s fs)
  | _, _, .nil => .cons ⟨rfl, hv⟩ .nil
  | (g1, v1) :: vs, (g2, s2) :: fs, .cons h t => by
    have h1 : g1 = g2 := h.1
    have h2 : SvOk ca Hf s2 v1 := h.2
    subst h1
    show PrF ca Hf (if g1 = f then (g1, v) :: vs else (g1, v1) :: putF f v vs) (if g1 = f then (g1, s) :: fs else (g1, s2) :: putFS f s fs)
    split
    · exact .cons ⟨rfl, hv⟩ t
    · exact .cons ⟨rfl, h2⟩ (prF_put f hv t)
end
def insM (s : S) : M (Nat × Addr × List (Str × S)) := fun cs => match s with
  | .cel j => match cs[j]? with
    | some (.ins C fs) => .ok (j, C, fs) cs
    | _ => .no
  | _ => .no
def lkM (f : Str) (fs : List (Str × S)) : M S := match fs.lookup f with
  | some s => ret s
  | none => stuck
open Classical in
noncomputable def eFld (C : Addr) (f : Str) (fo : List S → M S) (ρ : List S) : M S := bnd (fo ρ) fun o => bnd (insM o) fun p => if p.2.1 = C then lkM f p.2.2 else stuck
/-- a result as a value: what is new gets a cell -/
def nwM : Rv → M S
  | .d x => ret (.d x)
  | .cel j => ret (.cel j)
  | .own o => fun cs => .ok (.cel cs.length) (cs ++ [o])
  | _ => stuck
def sFldS (C : Addr) (f : Str) (fo : List S → M S) (fe : List S → M Rv) : G := fun ρ => stp (bnd (fe ρ) fun rv => bnd (nwM rv) fun v => bnd (fo ρ) fun o => bnd (insM o) fun p => if p.2.1 = C ∧ p.2.2.length < 1000 then putM p.1 (.ins C (putFS f v p.2.2)) else stuck) (fun _ cs => .nx ρ cs) ρ
section
variable {X : Cx} {W : WX} {B : Hp} {ca : List Addr} {Hf H : Hp} {ρ : List S} {σ : L2.St} {cs : Store} {β : Type} {P : List Addr → Hp → Hp → Store → β → Prop}
theorem insM_ {a : S} {k : Nat × Addr × List (Str × S) → M β} (h : Gs X W B ca Hf ρ σ (bnd (insM a) k cs) P) : ∃ j C fs, a = .cel j ∧ cs[j]? = some (.ins C fs) ∧ Gs X W B ca Hf ρ σ (k (j, C, fs) cs) P := by
  unfold bnd insM at h
  cases a with
  | cel j =>
    cases e : cs[j]? with
    | none => simp only [e] at h; exact h.elim
    | some o =>
      cases o with
      | ins C fs => simp only [e] at h; exact ⟨j, C, fs, rfl, e, h⟩
      | _ => simp only [e] at h; exact h.elim
  | _ => exact h.elim
theorem nwM_ {rv : Rv} {v : V} {k : S → M β} (r : Rel B ca ρ cs Hf σ H) (hv : RvOk B ca Hf H rv v) (h : Gs X W B ca Hf ρ σ (bnd (nwM rv) k cs) P) :
    ∃ ca1 cs1 s, Nx ca Hf ca1 Hf ∧ Rel B ca1 ρ cs1 Hf σ H ∧ SvOk ca1 Hf s v ∧ Gs X W B ca1 Hf ρ σ (k s cs1) P := by
  cases rv with
  | d x => exact ⟨ca, cs, .d x, Nx.refl, r, hv, h⟩
  | cel j => exact ⟨ca, cs, .cel j, Nx.refl, r, hv, h⟩
  | own o =>
    obtain ⟨a, rfl, r2, e2⟩ := r.alloc hv
    have n : Nx ca Hf (ca ++ [a]) Hf := ⟨List.prefix_append _ _, fun _ _ h => h⟩
    exact ⟨ca ++ [a], cs ++ [o], .cel cs.length, n, r2, ⟨a, e2, rfl⟩, Gs.fwd (show Gs X W B ca Hf ρ σ (k (.cel cs.length) (cs ++ [o])) P from h) n⟩
  | pr x xs => exact h.elim
  | cp j x => exact h.elim
end
section
variable {X : Cx} {W : WX} {e o : Expr} {fe fo : List S → M S} {fr : List S → M Rv} {pos pos' : Pos} {C : Addr} {f : Str}
theorem de_fld (c : Cls X.K C) (n : NoAttr X.K C f) (ho : DE X W e fe) (hb : attributeBase e f X.env (eval e X.env) = eval e X.env := by rfl) : DE X W (.Attribute e f pos) (eFld C f fe) := by
  obtain ⟨t, p, k⟩ := ho
  refine ⟨_, pe_fld p hb, fun B ca ρ cs Hf σ H Q r h => ?_⟩
  refine k B ca ρ cs Hf σ H _ r (h.bind.mono fun ca1 Hf1 H1 cs1 s1 n1 r1 h1 x hx => ?_)
  obtain ⟨j, C', fs, rfl, e1, h2⟩ := insM_ h1
  obtain ⟨l, g1, rfl⟩ := hx
  obtain ⟨dx, vs, c1, c2⟩ := r1.cell e1 g1
  have h3 : Gs X W B ca1 Hf1 ρ σ ((if C' = C then lkM f fs else stuck) cs1) (fun ca' Hf' H' _ s => ∀ v, SvOk ca' Hf' s v → Q v H') := h2
  split at h3
  · rename_i ec
    subst ec
    unfold lkM at h3
    rcases prF_get f c2 with ⟨_, q⟩ | ⟨v, s, q1, q2, q3⟩
    · rw [q] at h3; exact h3.elim
    · rw [q2] at h3
      exact ⟨l, C', dx, vs, v, rfl, c1, c, n, q1, h3.ret_ r1 v q3⟩
  · exact h3.elim
theorem dst_fld (c : Cls X.K C) (n : NoAttr X.K C f) (ho : DE X W o fo) (he : DO X W e fr) (hs : swapsWith e (some (.Attribute o f pos')) pos.line X.env = pure false := by rfl) : DSt X W (.Assign [.Attribute o f pos'] e pos) (sFldS C f fo fr) := by
  obtain ⟨to, po, ko⟩ := ho
  obtain ⟨te, pe, ke⟩ := he
  refine ⟨_, ps_fld po pe hs, fun B ca ρ cs Hf σ H En r hg => ?_⟩
  refine ke B ca ρ cs Hf σ H _ r (hg.stp_.bind.mono fun ca1 Hf1 H1 cs1 rv n1 r1 h1 v hv => ?_)
  obtain ⟨ca2, cs2, s2, n2, r2, hv2, h2⟩ := nwM_ r1 hv h1
  refine ko B ca2 ρ cs2 Hf1 σ H1 _ r2 (h2.bind.mono fun ca3 Hf3 H3 cs3 s3 n3 r3 h3 x hx => ?_)
  obtain ⟨j, C', fs, rfl, e1, h4⟩ := insM_ h3
  obtain ⟨l, g1, rfl⟩ := hx
  obtain ⟨dx, vs, c1, c2⟩ := r3.cell e1 g1
  have h5 : Gs X W B ca3 Hf3 ρ σ ((if C' = C ∧ fs.length < 1000 then putM j (.ins C (putFS f s2 fs)) else stuck) cs3) (fun ca1 Hf1 _ cs1 _ => GO X W B ca1 Hf1 En (.nx ρ cs1)) := h4
  split at h5
  · rename_i ec
    obtain ⟨ec, el⟩ := ec
    subst ec
    have r4 : Rel B ca3 ρ (cs3.set j (.ins C' (putFS f s2 fs))) Hf3 σ (upd H3 l (.ins C' dx (putF f v vs))) := r3.write g1 (fun _ _ z => by rw [c1] at z; cases z) ⟨dx, _, upd_same, prF_put f (hv2.nx n3) c2⟩
    refine ⟨l, C', dx, vs, rfl, c1, c, n, by rw [Paired.length c2]; exact el, ?_⟩
    exact GO.nx_ (h5 ca3 Hf3 _ Nx.refl r4) r4
  · exact h5.elim
end
def finW : Out → Res Rv
  | .nx _ cs => .ok (.d .none) cs
  | .rt r cs => .ok r cs
  | .er c _ cs => .er c cs
  | _ => .no
def runW (m : Nat) (g : G) (ss : List S) : M Rv := fun cs => finW (g (ss ++ List.replicate m .no) cs)
def spW (mg : Str → Option Value) (n : Nat) (F : List S → M Rv) : Sp := fun vs H Q E => vs.length = n ∧ ∃ B ca cs Hf ss, Rel B ca ss cs Hf (vs.map some) H ∧ match F ss cs with
  | .ok r cs' => ∀ ca' Hf' H' v, Nx ca Hf ca' Hf' → Rel B ca' ss cs' Hf' (vs.map some) H' → RvOk B ca' Hf' H' r v → Q v H'
  | .er c cs' => ∀ ca' Hf' H' cls, Nx ca Hf ca' Hf' → Rel B ca' ss cs' Hf' (vs.map some) H' → mg c = some cls → E cls none H'
  | .no => False
section
variable {P : Program} {w : World} {K : PySem.W.Frag} {mg : Str → Option Value} {base : Heap} {k : Nat} {x : Str} {qual : Str} {params : Arguments} {body : List Stmt} {scope : Scope} {dvs : List V} {kws : List (Str × V)} {f : Addr} {fd : FuncData} {ps N : List Str}
theorem def_okW (Fd : FunD K x qual params body scope dvs kws f fd) (S : FnScope N ps scope) {g : G} (m : Nat) (hm : N.length = ps.length + m)
    (hbody : ∀ (cdv : Value) (A : Around) (outer : List Env) (s : Shared) (H : Hp) (E : XK), Room k (A.deeper (PyProof.Rows.envOfC qual scope s.heap.objs.size f cdv)) → Takes (BX P w K mg base N qual scope f cdv A outer s H E) (BW E) →
      PassesOwn (model P w) (BX P w K mg base N qual scope f cdv A outer s H E).A (BX P w K mg base N qual scope f cdv A outer s H E).env (BX P w K mg base N qual scope f cdv A outer s H E).xe → DSs (BX P w K mg base N qual scope f cdv A outer s H E) (BW E) body g) :
    FnOk P w K mg base (L2.CX P w) (k + 1) f fd ps (spW mg ps.length (runW m g)) := by
  refine Fd.ok S (fun vs H Q E h => h.1) (fun cdv A outer s H vs Q E hr h => ?_)
  obtain ⟨hl, B, ca, cs, Hf, ss, r, h⟩ := h
  obtain ⟨t, pt, kt⟩ := hbody cdv A outer s H E hr takesB passesB
  refine ⟨t, pt, ?_⟩
  have hss : ss.length = vs.length := by
    have := r.len
    rw [List.length_map] at this
    exact this.symm
  have hst : L2.start N vs = vs.map some ++ List.replicate m none := by
    unfold L2.start
    rw [hm, hl, Nat.add_sub_cancel_left]
  have r1 : Rel B ca (ss ++ List.replicate m .no) cs Hf (L2.start N vs) H := by
    rw [hst]
    refine r.slots (by simp [hss]) fun i sl e => ?_
    by_cases hi : i < ss.length
    · rw [List.getElem?_append_left hi] at e
      rcases r.sl i sl e with z | ⟨v, h1, h2⟩
      · exact .inl z
      · exact .inr ⟨v, by rw [List.getElem?_append_left (by simp; omega)]; exact h1, h2⟩
    · rw [List.getElem?_append_right (by omega), List.getElem?_replicate] at e
      split at e
      · cases e; exact .inl rfl
      · cases e
  refine kt B ca _ cs Hf _ H _ r1 ?_
  have bk := fun {ca' : List Addr} {Hf' : Hp} {ρ' : List Dn.S} {cs' : Store} {σ' : L2.St} {H' : Hp} (n : Nx ca Hf ca' Hf') (r' : Rel B ca' ρ' cs' Hf' σ' H') => Rel.back r n r'
  unfold runW at h
  cases e : g (ss ++ List.replicate m .no) cs with
  | nx ρ' cs' => rw [e] at h; exact fun ca' Hf' σ' H' n r' => h ca' Hf' H' .non n (bk n r') .non
  | rt rv cs' => rw [e] at h; exact fun ca' Hf' ρ' σ' H' v n r' hv => h ca' Hf' H' v n (bk n r') hv
  | er c ρ' cs' => rw [e] at h; exact fun ca' Hf' σ' H' cls n r' hc => h ca' Hf' H' cls n (bk n r') hc
  | bk ρ' cs' => rw [e] at h; exact h.elim
  | ct ρ' cs' => rw [e] at h; exact h.elim
  | no => rw [e] at h; exact h.elim
end
/-- a def or method of the text, by its mirror -/
def OkfW (P : Program) (w : World) (K : PySem.W.Frag) (mg : Str → Option Value) (base : Heap) (k : Nat) (f : Addr) (ps : List Str) (F : List S → M Rv) : Prop :=
  ∃ fd, FnOk P w K mg base (L2.CX P w) k f fd ps (spW mg ps.length F) ∧ Binds K fd ps []
theorem OkfW.mono {P : Program} {w : World} {K : PySem.W.Frag} {mg : Str → Option Value} {base : Heap} {j k : Nat} {f : Addr} {ps : List Str} {F : List S → M Rv} (h : OkfW P w K mg base j f ps F) (hk : j ≤ k) : OkfW P w K mg base k f ps F := by
  obtain ⟨fd, h2, h3⟩ := h
  exact ⟨fd, h2.mono hk, h3⟩
open Classical in
noncomputable def eMethW (C : Addr) (m : Str) (F : List S → M Rv) (fo : List S → M S) (g : List S → M (List S)) (ρ : List S) : M Rv := bnd (fo ρ) fun o => bnd (insM o) fun p => if p.2.1 = C ∧ p.2.2.lookup m = none then bnd (g ρ) fun ss => F (o :: ss) else stuck
def nilM (_ : List S) : M (List S) := ret []
def mkW (C : Addr) (F : List S → M Rv) (ss : List S) : M S := fun cs => match F (.cel cs.length :: ss) (cs ++ [.ins C []]) with
  | .ok (.d .none) cs' => .ok (.cel cs.length) cs'
  | .er c cs' => .er c cs'
  | _ => .no
def eMakeW (C : Addr) (F : List S → M Rv) (g : List S → M (List S)) (ρ : List S) : M S := bnd (g ρ) (mkW C F)
section
variable {X : Cx} {W : WX} {B : Hp} {ca : List Addr} {ρ : List S} {cs : Store} {Hf H : Hp} {σ : L2.St} {n : Nat} {F : List S → M Rv} {ss : List S} {vs : List V}
theorem callW_run {Q : VK} (r : Rel B ca ρ cs Hf σ H) (hn : vs.length = n) (hv : SvsOk ca Hf ss vs)
    (h : Gs X W B ca Hf ρ σ (F ss cs) (fun ca' Hf' H' _ rv => ∀ v, RvOk B ca' Hf' H' rv v → Q v H')) : spW X.mg n F vs H Q (WE W σ) := by
  refine ⟨hn, B, ca, cs, Hf, ss, r.enterA hv, ?_⟩
  cases q : F ss cs with
  | no => rw [q] at h; exact h.elim
  | er c cs1 => rw [q] at h; exact fun ca' Hf' H' cls nx r' hm => h ca' Hf' H' cls nx (Rel.back r nx r') hm
  | ok rv cs1 => rw [q] at h; exact fun ca' Hf' H' v nx r' hr => h ca' Hf' H' nx (Rel.back r nx r') v hr
theorem Rel.made {C x dx : Addr} (r : Rel B ca ρ cs Hf σ H) (hx : H x = none) (hd : H dx = none) (hne : dx ≠ x) :
    Rel B (ca ++ [x]) ρ (cs ++ [.ins C []]) Hf σ (upd (upd H dx (.own x)) x (.ins C dx [])) ∧ (ca ++ [x])[cs.length]? = some x := by
  have e1 : Ex H (upd H dx (.own x)) := ex_new hd
  have hx1 : upd H dx (.own x) x = none := by rw [upd_ne (Ne.symm hne)]; exact hx
  have r1 := (r.grow e1).grow (ex_new (o := .ins C dx []) hx1)
  obtain ⟨m1, m2, m3⟩ := r.newIn hx
  obtain ⟨a, ea, r2, e2⟩ := r1.alloc (o := .ins C []) (v := .ref x) ⟨x, rfl, ⟨dx, [], upd_same, .nil⟩, m1, m2, m3⟩
  cases ea
  exact ⟨r2, e2⟩
theorem mkW_run {C : Addr} {Q : VK} (r : Rel B ca ρ cs Hf σ H) (hn : vs.length + 1 = n) (hv : SvsOk ca Hf ss vs)
    (h : Gs X W B ca Hf ρ σ (mkW C F ss cs) (fun ca' Hf' H' _ s => ∀ v, SvOk ca' Hf' s v → Q v H')) {x dx : Addr} (hx : H x = none) (hd : H dx = none) (hne : dx ≠ x) :
    spW X.mg n F (.ref x :: vs) (upd (upd H dx (.own x)) x (.ins C dx [])) (fun v H2 => v = .non ∧ Q (.ref x) H2) (WE W σ) := by
  obtain ⟨r2, e2⟩ := r.made (C := C) hx hd hne
  have nx0 : Nx ca Hf (ca ++ [x]) Hf := ⟨List.prefix_append _ _, fun _ _ h => h⟩
  have hv2 : SvsOk (ca ++ [x]) Hf (.cel cs.length :: ss) (.ref x :: vs) := .cons ⟨x, e2, rfl⟩ (hv.nx nx0)
  refine ⟨by rw [List.length_cons]; exact hn, B, ca ++ [x], cs ++ [.ins C []], Hf, .cel cs.length :: ss, r2.enterA hv2, ?_⟩
  unfold mkW at h
  cases q : F (.cel cs.length :: ss) (cs ++ [.ins C []]) with
  | no => rw [q] at h; exact h.elim
  | er c cs1 => rw [q] at h; exact fun ca' Hf' H' cls nx r' hm => h ca' Hf' H' cls (nx0.trans nx) (Rel.back r (nx0.trans nx) r') hm
  | ok rv cs1 =>
    rw [q] at h
    cases rv with
    | d d =>
      cases d with
      | none =>
        intro ca' Hf' H' v nx r' hr
        have hr' : Dd Hf' v .none := hr
        cases hr'
        refine ⟨rfl, h ca' Hf' H' (nx0.trans nx) (Rel.back r (nx0.trans nx) r') (.ref x) ?_⟩
        have z : SvOk ca' Hf' (.cel cs.length) (.ref x) := SvOk.nx (show SvOk (ca ++ [x]) Hf (.cel cs.length) (.ref x) from ⟨x, e2, rfl⟩) nx
        exact z
      | _ => exact h.elim
    | _ => exact h.elim
end
section
variable {X : Cx} {W : WX} {k : Nat} {x m : Str} {ps : List Str} {F : List S → M Rv} {p pos apos : Pos} {e o : Expr} {es : List Expr} {g : List S → M (List S)} {fo : List S → M S} {f C : Addr}
theorem da_run {t : TA} {B : Hp} {ca : List Addr} {ρ : List S} {cs : Store} {Hf : Hp} {σ : L2.St} {H : Hp} {β : Type} {kk : List S → M β} {P : List Addr → Hp → Hp → Store → β → Prop} {Q : List V → Hp → Prop} (kt : KA X W t g) (r : Rel B ca ρ cs Hf σ H)
    (h : Gs X W B ca Hf ρ σ (bnd (g ρ) kk cs) P) (hq : ∀ ca1 Hf1 H1 cs1 ss vs, g ρ cs = .ok ss cs1 → Nx ca Hf ca1 Hf1 → Rel B ca1 ρ cs1 Hf1 σ H1 → SvsOk ca1 Hf1 ss vs → Gs X W B ca1 Hf1 ρ σ (kk ss cs1) P → Q vs H1) : t σ H Q := by
  refine kt B ca ρ cs Hf σ H _ r ?_
  cases q : g ρ cs with
  | ok ss cs1 =>
    have e1 : bnd (g ρ) kk cs = kk ss cs1 := bnd_ok q
    have h1 : Gs X W B ca Hf ρ σ (kk ss cs1) P := by rw [← e1]; exact h
    intro ca1 Hf1 H1 n1 r1 vs hvs
    exact hq ca1 Hf1 H1 cs1 ss vs q n1 r1 hvs (h1.fwd n1)
  | er c cs1 =>
    have e1 : bnd (g ρ) kk cs = .er c cs1 := by unfold bnd; rw [q]
    rw [e1] at h
    exact h
  | no =>
    have e1 : bnd (g ρ) kk cs = .no := by unfold bnd; rw [q]
    rw [e1] at h
    exact h.elim
theorem do_methW (c : Cls X.K C) (hM : Meth X.K C m f) (h : OkfW X.prog X.w X.K X.mg X.base k f ps F) (hr : Room k X.A) (tk : Takes X W) (ho : DE X W o fo)
    (ha : DA X W (e :: es) g) (hlen : ∀ ρ cs ss cs', g ρ cs = .ok ss cs' → ss.length + 1 = ps.length)
    {pl : Sem Bool} (hst : starEach (e :: es) X.env = (false, eval e X.env) :: starEach es X.env := by rfl) (hpl : (backTo pos (starEach es X.env)).any (·.1) = false := by rfl)
    (ht : eval (.Call (.Attribute o m apos) (e :: es) [] pos) X.env = (do
      let ov ← eval o X.env
      standAt apos.atName
      let (f, first) ← holding [ov] (getMethod ov m pl)
      callWith pos f first (backTo pos (starEach (e :: es) X.env)) (backToKw pos (keywordEach [] X.env))) := by rfl) :
    DO X W (.Call (.Attribute o m apos) (e :: es) [] pos) (eMethW C m F fo g) := by
  obtain ⟨fd, Fk, hb⟩ := h
  obtain ⟨t, pt, kt⟩ := ha
  obtain ⟨to, po, ko⟩ := ho
  refine ⟨_, pe_mthW (E := WE W) po c hM Fk hr hb (passAt tk) pt hst hpl ht, fun B ca ρ cs Hf σ H Q r h => ?_⟩
  refine ko B ca ρ cs Hf σ H _ r (h.bind.mono fun ca1 Hf1 H1 cs1 s1 n1 r1 h1 v hv => ?_)
  obtain ⟨j, C', fs, rfl, e1, h2⟩ := insM_ h1
  obtain ⟨l, g1, rfl⟩ := hv
  obtain ⟨dx, ws, c1, c2⟩ := r1.cell e1 g1
  have h3 : Gs X W B ca1 Hf1 ρ σ ((if C' = C ∧ fs.lookup m = none then bnd (g ρ) (fun ss => F (.cel j :: ss)) else stuck) cs1) (fun ca' Hf' H' _ rv => ∀ v, RvOk B ca' Hf' H' rv v → Q v H') := h2
  split at h3
  · rename_i ec
    obtain ⟨ec, el⟩ := ec
    subst ec
    have lk : ws.lookup m = none := by
      rcases prF_get m c2 with ⟨q, _⟩ | ⟨v, s, q1, q2, q3⟩
      · exact q
      · rw [q2] at el; cases el
    refine ⟨l, dx, ws, rfl, c1, lk, ?_⟩
    exact da_run kt r1 h3 fun ca2 Hf2 H2 cs2 ss vs q n2 r2 hvs h4 => callW_run r2 (by rw [List.length_cons, ← hvs.len]; exact hlen ρ cs1 ss cs2 q) (.cons (SvOk.nx (show SvOk ca1 Hf1 (.cel j) (.ref l) from ⟨l, g1, rfl⟩) n2) hvs) h4
  · exact h3.elim
theorem do_meth0W (c : Cls X.K C) (hM : Meth X.K C m f) (h : OkfW X.prog X.w X.K X.mg X.base k f ps F) (hr : Room k X.A) (tk : Takes X W) (ho : DE X W o fo) (hlen : 1 = ps.length := by rfl)
    {pl : Sem Bool} (ht : eval (.Call (.Attribute o m apos) [] [] pos) X.env = (do
      let ov ← eval o X.env
      standAt apos.atName
      let (f, first) ← holding [ov] (getMethod ov m pl)
      callWith pos f first (backTo pos (starEach [] X.env)) (backToKw pos (keywordEach [] X.env))) := by rfl) :
    DO X W (.Call (.Attribute o m apos) [] [] pos) (eMethW C m F fo nilM) := by
  obtain ⟨fd, Fk, hb⟩ := h
  obtain ⟨to, po, ko⟩ := ho
  refine ⟨_, pe_mth0W (E := WE W) po c hM Fk hr hb (passAt tk) ht, fun B ca ρ cs Hf σ H Q r h => ?_⟩
  refine ko B ca ρ cs Hf σ H _ r (h.bind.mono fun ca1 Hf1 H1 cs1 s1 n1 r1 h1 v hv => ?_)
  obtain ⟨j, C', fs, rfl, e1, h2⟩ := insM_ h1
  obtain ⟨l, g1, rfl⟩ := hv
  obtain ⟨dx, ws, c1, c2⟩ := r1.cell e1 g1
  have h3 : Gs X W B ca1 Hf1 ρ σ ((if C' = C ∧ fs.lookup m = none then bnd (nilM ρ) (fun ss => F (.cel j :: ss)) else stuck) cs1) (fun ca' Hf' H' _ rv => ∀ v, RvOk B ca' Hf' H' rv v → Q v H') := h2
  split at h3
  · rename_i ec
    obtain ⟨ec, el⟩ := ec
    subst ec
    have lk : ws.lookup m = none := by
      rcases prF_get m c2 with ⟨q, _⟩ | ⟨v, s, q1, q2, q3⟩
      · exact q
      · rw [q2] at el; cases el
    refine ⟨l, dx, ws, rfl, c1, lk, ?_⟩
    have h4 : Gs X W B ca1 Hf1 ρ σ (F [.cel j] cs1) (fun ca' Hf' H' _ rv => ∀ v, RvOk B ca' Hf' H' rv v → Q v H') := h3
    exact callW_run r1 hlen (SvsOk.cons (show SvOk ca1 Hf1 (.cel j) (.ref l) from ⟨l, g1, rfl⟩) .nil) h4
  · exact h3.elim
theorem de_makeW (M : Mk X.K C f) (hm : X.mg x = some (.ref C)) (h : OkfW X.prog X.w X.K X.mg X.base k f ps F) (hr : Room (k + 1) X.A) (tk : Takes X W)
    (ha : DA X W (e :: es) g) (hlen : ∀ ρ cs ss cs', g ρ cs = .ok ss cs' → ss.length + 1 = ps.length) (hg : Gl X x := by rfl) (hdb : (x == ("__debug__" : Str)) = false := by decide) (he : starEach (e :: es) X.env = (false, eval e X.env) :: starEach es X.env := by rfl) (hpl : (backTo pos (starEach es X.env)).any (·.1) = false := by rfl)
    : DE X W (.Call (.Name x p) (e :: es) [] pos) (eMakeW C F g) := by
  obtain ⟨fd, Fk, hb⟩ := h
  obtain ⟨t, pt, kt⟩ := ha
  refine ⟨_, pe_mkW (E := WE W) M Fk hr hg hm hb (passAt tk) pt hdb he hpl, fun B ca ρ cs Hf σ H Q r h => ?_⟩
  exact da_run kt r h fun ca1 Hf1 H1 cs1 ss vs q n1 r1 hvs h1 => fun x dx hx hd hne => mkW_run r1 (by rw [← hvs.len]; exact hlen ρ cs ss cs1 q) hvs h1 hx hd hne
end
end Dn

set_option Elab.async false
set_option linter.all false
set_option maxRecDepth 100000
set_option maxHeartbeats 1000000
namespace Dn
open PySem L2 PySem.Spec PyProof.Rows
/-- a method of the text -/
structure DfnM (K : PySem.W.Frag) (c m q : Str) (st : Stmt) (ps : List Str) : Prop where
  M : Meth K (He.ga K c) m (He.ma K (He.ga K c) m)
  d : ∃ fd, FunD K m q (defArgs st) (defBody st) (defScope st) [] [] (He.ma K (He.ga K c) m) fd ∧ Binds K fd ps []
section
variable {P : Program} {w : World} {K : PySem.W.Frag} {mg : Str → Option Value} {base : Heap} {k : Nat} {c m q x : Str} {ps N : List Str} {st : Stmt}
theorem DfnM.okW (T : DfnM K c m q st ps) (sc : FnScope N ps (defScope st)) (n : Nat) (hm : N.length = ps.length + n) {g : G}
    (hbody : ∀ (cdv : Value) (A : Around) (outer : List Env) (s : Shared) (H : Hp) (E : XK), Room k (A.deeper (PyProof.Rows.envOfC q (defScope st) s.heap.objs.size (He.ma K (He.ga K c) m) cdv)) → Takes (BX P w K mg base N q (defScope st) (He.ma K (He.ga K c) m) cdv A outer s H E) (BW E) →
      PassesOwn (model P w) (BX P w K mg base N q (defScope st) (He.ma K (He.ga K c) m) cdv A outer s H E).A (BX P w K mg base N q (defScope st) (He.ma K (He.ga K c) m) cdv A outer s H E).env (BX P w K mg base N q (defScope st) (He.ma K (He.ga K c) m) cdv A outer s H E).xe → DSs (BX P w K mg base N q (defScope st) (He.ma K (He.ga K c) m) cdv A outer s H E) (BW E) (defBody st) g) :
    OkfW P w K mg base (k + 1) (He.ma K (He.ga K c) m) ps (runW n g) := by
  obtain ⟨h1, fd, h2, h3⟩ := T
  exact ⟨fd, def_okW h2 sc n hm hbody, h3⟩
/-- a def over the whole store -/
theorem Dfn.okW (T : Dfn K mg x st ps) (sc : FnScope N ps (defScope st)) (n : Nat) (hm : N.length = ps.length + n) {g : G}
    (hbody : ∀ (cdv : Value) (A : Around) (outer : List Env) (s : Shared) (H : Hp) (E : XK), Room k (A.deeper (PyProof.Rows.envOfC x (defScope st) s.heap.objs.size (He.ga K x) cdv)) → Takes (BX P w K mg base N x (defScope st) (He.ga K x) cdv A outer s H E) (BW E) →
      PassesOwn (model P w) (BX P w K mg base N x (defScope st) (He.ga K x) cdv A outer s H E).A (BX P w K mg base N x (defScope st) (He.ga K x) cdv A outer s H E).env (BX P w K mg base N x (defScope st) (He.ga K x) cdv A outer s H E).xe → DSs (BX P w K mg base N x (defScope st) (He.ga K x) cdv A outer s H E) (BW E) (defBody st) g) :
    OkfW P w K mg base (k + 1) (He.ga K x) ps (runW n g) := by
  obtain ⟨h1, fd, h2, h3⟩ := T
  exact ⟨fd, def_okW h2 sc n hm hbody, h3⟩
end
section
variable {fa : List He.Fa} {fn : List He.DefD} {K : PySem.W.Frag}
theorem dfn_ofM (z : He.SaysD fa fn K) {c m q : Str} {st : Stmt} {ps : List Str} (i j : Nat) (hi : fn[i]? = some (dfdM c m q st)) (hj : fa[j]? = some (.meth c m))
    (hb : ∀ (kV doc pm : Value) (an : Option Addr) (cdv ct : Value) (us : List Value), us.length = ps.length → bindArgs (PySem.W.fnOf m q (defArgs st) (defBody st) (defScope st) .none kV doc pm an cdv ct) ⟨us, []⟩ = pure (ps.zip us)) : DfnM K c m q st ps := by
  obtain ⟨fd, F⟩ := z.def_ i hi
  exact ⟨He.meth_ok (z.fact j hj), fd, F, FunD.bindsN F hb⟩
end
theorem alenM {g : List S → M (List S)} {n : Nat} (h : ∀ ρ cs ss cs', g ρ cs = .ok ss cs' → ss.length = n) : ∀ ρ cs ss cs', g ρ cs = .ok ss cs' → ss.length + 1 = n + 1 := fun ρ cs ss cs' e => congrArg (· + 1) (h ρ cs ss cs' e)
section
variable {X : Cx} {W : WX} {a b : Expr} {fa fb : List S → M S} {pos : Pos}
end
end Dn

set_option Elab.async false
set_option linter.all false
set_option maxRecDepth 100000
set_option maxHeartbeats 1000000
namespace Dn
open PySem L2
def lstM (s : S) : M (List D) := fun cs => match vw s cs with
  | some (.list ds) => .ok ds cs
  | _ => .no
section
variable {X : Cx} {W : WX} {o e : Expr} {fo fx : List S → M S} {apos cpos : Pos}
end
end Dn

set_option Elab.async false
set_option linter.all false
set_option maxRecDepth 100000
set_option maxHeartbeats 1000000
namespace L2
open PySem PySem.Spec PyProof.Rows
inductive HdsOkA (X : Cx) : List ExceptHandler → List (Value × Nat × (Addr → Value → Option Addr → TS)) → Prop
  | nil : HdsOkA X [] []
  | cons {x n : Str} {c : Value} {i : Nat} {ts : Addr → Value → Option Addr → TS} {b₀ : Stmt} {suite : List Stmt} {np pos' : Pos} {hds : List ExceptHandler} {l : List (Value × Nat × (Addr → Value → Option Addr → TS))} (hi : X.N[i]? = some n) (hln : X.env.kindOf n = some .local) (hc : Names X x c)
      (hsu : ∀ (a : Addr) (oe : Obj) (cls : Value) (d : Option Addr) (pn : List (Addr × Obj)), Zc cls d oe → (∃ vs, oe.data = .fields vs) → PSs (X.suite a ((a, oe) :: pn)) (b₀ :: suite) (ts a cls d)) (r : HdsOkA X hds l) :
      HdsOkA X (.ExceptHandler (some (.Name x np)) (some n) (b₀ :: suite) pos' :: hds) ((c, i, ts) :: l)
section
variable {X : Cx} {body : List Stmt} {h₀ : ExceptHandler} {hds : List ExceptHandler} {l : List (Value × Nat × (Addr → Value → Option Addr → TS))} {pos : Pos} {tb : WX → TS} {Wout : WX}
end
end L2
namespace Dn
open PySem L2
section
variable {X : Cx} {W : WX}
end
end Dn

set_option Elab.async false
set_option linter.all false
set_option maxRecDepth 100000
set_option maxHeartbeats 1000000
namespace Dn
open PySem L2 PySem.W PyProof.Rows
/-- a tuple in the heap with a pair ahead -/
def HeadIs3 (h : Heap) (v : Value) (z : Int) : Prop := ∃ i j a o b ob t t' xs ys n m, z = i * 18446744073709551616 + j ∧ (0 ≤ j ∧ j < 4611686018427387904) ∧ v = .ref a ∧ h.get? a = some o ∧ o.cls = .type "tuple" ∧ o.data = .seq xs n ∧ xs.toList = Value.ref b :: ys ∧ h.get? b = some ob ∧ ob.cls = .type "tuple" ∧ ob.data = .seq #[Value.int i t, Value.int j t'] m
theorem HeadIs3.keeps {h g : Heap} {v : Value} {i : Int} (x : HeadIs3 h v i) (k : ∀ b o, h.get? b = some o → o.cls = .type "tuple" → g.get? b = some o) : HeadIs3 g v i :=
  let ⟨i, j, a, o, b, ob, t, t', xs, ys, n, m, e0, e1, e, ho, hc, hd, hl, hb, hbc, hbd⟩ := x; ⟨i, j, a, o, b, ob, t, t', xs, ys, n, m, e0, e1, e, k a o ho hc, hc, hd, hl, k b ob hb hbc, hbc, hbd⟩
section
variable {pr : Program} {w : World} {A : Around} {s : Shared}
end
section
variable {X : Cx} {W : WX} {e : Expr} {fe : List S → M S} {px pos2 : Pos}
end
end Dn

set_option Elab.async false
set_option linter.all false
set_option maxRecDepth 100000
set_option maxHeartbeats 1000000
namespace L2
open PySem PySem.Spec PyProof.Rows
section
variable {X : Cx} {pins : List (Addr × Obj)} {σ : St} {H : Hp} {s : Shared} {a b : Addr} {r : Value} {d : V} {A : Around} {E : Value → Shared → Prop}
end
section
variable {X : Cx} {o e f : Expr} {td ty tx : TE} {apos cpos : Pos}
end
end L2
namespace Dn
open PySem L2
section
variable {X : Cx} {W : WX} {B : Hp} {ca : List Addr} {Hf H : Hp} {ρ : List S} {σ : L2.St} {cs : Store} {β : Type} {P : List Addr → Hp → Hp → Store → β → Prop}
variable {o : Expr} {es : List Expr} {fo : List S → M S} {ga : List S → M (List S)} {apos cpos pt pl : Pos} {ct : Nat}
end
end Dn

set_option Elab.async false
set_option linter.all false
set_option maxRecDepth 100000
set_option maxHeartbeats 1000000
namespace Dn
open PySem PySem.Spec PyProof.Rows L2
section
variable {X : Cx}
end
end Dn

set_option Elab.async false
set_option linter.all false
set_option maxRecDepth 100000
set_option maxHeartbeats 1000000
namespace Dn
open PySem L2
section
variable {B : Hp} {ca : List Addr} {ρ : List S} {cs : Store} {Hf Hf' : Hp} {σ : L2.St} {H H' : Hp} {a : Addr}
end
section
variable {X : Cx} {W : WX} {e : Expr} {f : List S → M S}
end
end Dn

set_option Elab.async false
set_option linter.all false
set_option maxRecDepth 100000
set_option maxHeartbeats 1000000
namespace Dn
open PySem L2
mutual
def nkD : D → Option NestedKey
  | .none => some .none
  | .int i => some (.num i)
  | .str x => some (.text x)
  | .tuple ds => match nkDs ds with
    | some ks => some (.tup ks)
    | none => none
  | _ => none
def nkDs : List D → Option (List NestedKey)
  | [] => some []
  | d :: ds => match nkD d, nkDs ds with
    | some k, some ks => some (k :: ks)
    | _, _ => none
end
mutual
theorem nkD_data : ∀ (d : D) (k : NestedKey), nkD d = some k → k.data = d
  | .none, k, h => by unfold nkD at h; cases h; rfl
  | .int i, k, h => by unfold nkD at h; cases h; rfl
  | .str x, k, h => by unfold nkD at h; cases h; rfl
  | .tuple ds, k, h => by
    unfold nkD at h
    cases e : nkDs ds with
    | none => rw [e] at h; cases h
    | some ks =>
      rw [e] at h; cases h
      show PyData.tuple (NestedKey.datas ks) = _
      rw [nkDs_data ds ks e]
  | .bool _, k, h => by unfold nkD at h; cases h
  | .list _, k, h => by unfold nkD at h; cases h
theorem nkDs_data : ∀ (ds : List D) (ks : List NestedKey), nkDs ds = some ks → NestedKey.datas ks = ds
  | [], ks, h => by unfold nkDs at h; cases h; rfl
  | d :: ds, ks, h => by
    unfold nkDs at h
    cases e1 : nkD d with
    | none => rw [e1] at h; cases h
    | some k =>
      cases e2 : nkDs ds with
      | none => rw [e1, e2] at h; cases h
      | some kr =>
        rw [e1, e2] at h; cases h
        show NestedKey.data k :: NestedKey.datas kr = _
        rw [nkD_data d k e1, nkDs_data ds kr e2]
end
/-- a tuple that can be a key -/
def tkD : D → Option NestedKey
  | .tuple ds => match nkDs ds with
    | some ks => if NestedKey.depth (.tup ks) ≤ 8 then some (.tup ks) else none
    | none => none
  | _ => none
theorem tkD_tup {d : D} {k : NestedKey} (h : tkD d = some k) : (∃ ds, d = .tuple ds) ∧ k.data = d ∧ k.depth ≤ 8 := by
  unfold tkD at h
  split at h
  · rename_i ds
    cases e : nkDs ds with
    | none => rw [e] at h; cases h
    | some ks =>
      rw [e] at h
      simp only at h
      split at h
      · rename_i hd
        cases h
        exact ⟨⟨ds, rfl⟩, (show PyData.tuple (NestedKey.datas ks) = _ by rw [nkDs_data ds ks e]), hd⟩
      · cases h
  · cases h
section
variable {P : Program} {w : World} {Hf H : Hp} {h : Heap}
mutual
theorem nested_of (ok : HOk P w H h) (x : Ex Hf H) : ∀ (k : NestedKey) (v : V) (u : Value), Dd Hf v k.data → RelV v u → NestedIs h k u
  | .none, v, u, hd, r => by
    cases hd
    have e : u = Value.none := r
    rw [e]
    exact .none
  | .num i, v, u, hd, r => by
    cases hd
    obtain ⟨t, e⟩ := (show ∃ t, u = Value.int i t from r)
    rw [e]
    exact .int _ _
  | .text z, v, u, hd, r => by
    cases hd
    obtain ⟨t, e⟩ := (show ∃ t, u = Value.str z t from r)
    rw [e]
    exact .text _ _
  | .tup ks, v, u, hd, r => by
    have hd' : Dd Hf v (.tuple (NestedKey.datas ks)) := hd
    cases hd' with
    | tup h1 h2 =>
      rename_i a xs
      have e : u = Value.ref a := r
      rw [e]
      obtain ⟨_, its, rv, o, g1, g2, n, g3⟩ := (show ObjOk P w H h a (.tup xs) from (h1.ex x).rd.ok ok)
      exact .tup g1 g2 g3 (by simpa using nesteds_of ok x ks xs its h2 rv)
theorem nesteds_of (ok : HOk P w H h) (x : Ex Hf H) : ∀ (ks : List NestedKey) (vs : List V) (us : List Value), Dds Hf vs (NestedKey.datas ks) → Vals vs us → NestedAll h ks us
  | [], vs, us, hd, r => by
    have hd' : Dds Hf vs [] := hd
    cases hd'
    cases r
    exact .nil
  | k :: ks, vs, us, hd, r => by
    have hd' : Dds Hf vs (k.data :: NestedKey.datas ks) := hd
    cases hd' with
    | cons h1 h2 =>
      cases r with
      | cons r1 r2 => exact .cons (nested_of ok x k _ _ h1 r1) (nesteds_of ok x ks _ _ h2 r2)
end
def VKey (H : Hp) (k : NestedKey) (b : Addr) : Prop := ∃ Hf, Ex Hf H ∧ Dd Hf (.ref b) k.data ∧ k.depth ≤ 8
theorem VKey.is {k : NestedKey} {b : Addr} (x : VKey H k b) (ok : HOk P w H h) : (nestedKind P w).is h k b := by
  obtain ⟨Hf, x1, x2, x3⟩ := x
  exact ⟨nested_of ok x1 k _ _ x2 rfl, x3⟩
theorem VKey.ex {H' : Hp} {k : NestedKey} {b : Addr} (x : VKey H k b) (e : Ex H H') : VKey H' k b :=
  let ⟨Hf, x1, x2, x3⟩ := x
  ⟨Hf, fun a o z => e a o (x1 a o z), x2, x3⟩
def VC (w : World) (H : Hp) (a : Addr) (xs : List (NestedKey × Addr × Value)) (ep : Nat) : Prop := H a = some (.ext (RawV w a xs ep)) ∧ ∀ x ∈ xs, VKey H x.1 x.2.1
theorem VC.of {a : Addr} {xs : List (NestedKey × Addr × Value)} {ep : Nat} (x : VC w H a xs ep) (ok : HOk P w H h) :
    (a == sysModules) = false ∧ xs.length ≤ sizeLine ∧ h.DictOfH (nestedKind P w) a xs ∧ ∃ o es, h.get? a = some o ∧ o.ExactDict ∧ o.data = .dict es ep ∧ es.toList = xs.map (entV w) := by
  obtain ⟨⟨h1, h2, o, es, h3, h4, h5, h6, h7⟩, _⟩ := (show ObjOk P w H h a (.ext (RawV w a xs ep)) from ok a _ x.1)
  exact ⟨h1, h2, ⟨o, es, ep, h3, h4, h5, h6, fun y hy => (x.2 y hy).is ok, h7⟩, o, es, h3, h4, h5, h6⟩
theorem RawV.of {a : Addr} {xs : List (NestedKey × Addr × Value)} (h1 : (a == sysModules) = false) (h2 : xs.length ≤ sizeLine) (hd : h.DictOfH (nestedKind P w) a xs) : ∃ ep, RawV w a xs ep h := by
  obtain ⟨o, es, ep, g1, g2, g3, g4, _, g5⟩ := hd
  exact ⟨ep, h1, h2, o, es, g1, g2, g3, g4, g5⟩
theorem RawV.ok {a : Addr} {xs : List (NestedKey × Addr × Value)} {ep : Nat} (x : RawV w a xs ep h) : ObjOk P w H h a (.ext (RawV w a xs ep)) := by
  obtain ⟨h1, h2, o, es, g1, g2, g3, g4, g5⟩ := id x
  exact ⟨x, ⟨o, g1⟩, fun k1 k2 y e => let ⟨y1, y2, o, es, y3, y4⟩ := y; ⟨y1, y2, o, es, e o y3, y4⟩⟩
theorem storedH_le (xs : List (NestedKey × Addr × Value)) (k : NestedKey) (b : Addr) (r : Value) : (storedH xs k b r).length ≤ xs.length + 1 := by
  unfold storedH
  split
  · rw [List.length_map]; omega
  · rw [List.length_append]; simp
end
def tVIn (w : World) (neg : Bool) (ty td : TE) : TE := fun σ H Q => ty σ H fun y H1 => td σ H1 fun x H2 => ∃ a b k xs ep, x = .ref a ∧ y = .ref b ∧ VC w H2 a xs ep ∧ VKey H2 k b ∧ Q (.bl (if neg = true then !(atKey xs k).isSome else (atKey xs k).isSome)) H2
def sVPut (w : World) (td ty tv : TE) : TS := fun D σ H => tv σ H fun v H1 => td σ H1 fun x H2 => ty σ H2 fun y H3 => ∃ a b k xs ep, x = .ref a ∧ y = .ref b ∧ VC w H3 a xs ep ∧ VKey H3 k b ∧ xs.length < sizeLine ∧
  ∀ r ep', RelV v r → D.nx σ (upd H3 a (.ext (RawV w a (storedH xs k b r) ep')))
def tVNew (w : World) : TE := fun _ H Q => ∀ p, H p = none → Q (.ref p) (upd H p (.ext (RawV w p [] 0)))
def tVDisp (w : World) (tk tv : TE) : TE := fun σ H Q => ∀ p, H p = none → tk σ (upd H p (.ext (RawV w p [] 0))) fun x H1 => tv σ H1 fun y H2 => H2 p = some (.ext (RawV w p [] 0)) ∧ ∃ k b, x = .ref b ∧ VKey H2 k b ∧
  ∀ r ep', RelV y r → Q (.ref p) (upd H2 p (.ext (RawV w p [(k, b, r)] ep')))
section
variable {X : Cx} {o i e value : Expr} {pos pos' tpos : Pos} {td ty tv : TE}
theorem room_nested {P : Program} {w : World} {A : Around} (hu : A.units + 200 < cLine) : (nestedKind P w).room A.in1 := by
  show A.units + 1 + 8 < cLine
  omega
theorem room_nested0 {P : Program} {w : World} {A : Around} (hu : A.units + 200 < cLine) : (nestedKind P w).room A := by
  show A.units + 8 < cLine
  omega
theorem pc_vnin (hu : X.A.units + 200 < cLine) (hi : PE X i ty) (ho : PE X o td) : PC X .NotIn i o (tVIn X.w true ty td) := by
  refine ⟨fun pins s σ H Q I h => ?_⟩
  refine thn (hi.run pins s σ H _ I h) fun iv s1 ⟨y, H1, I1, ry, q1⟩ => thn (ho.run pins s1 σ H1 _ I1 q1) fun u s2 ⟨x, H2, I2, rx, a, b, k, xs, ep, ex, ey, vc, vk, q2⟩ => ?_
  subst ex
  subst ey
  obtain rfl : u = Value.ref a := rx
  obtain rfl : iv = Value.ref b := ry
  obtain ⟨c1, c2, c3, _⟩ := vc.of I2.hok
  exact PyProof.Rows.wpAny_notIn_heap (room_nested hu) (vk.is I2.hok) c1 c3 ⟨.bl (!(atKey xs k).isSome), H2, I2.tok _, rfl, q2⟩
theorem ps_vput (hu : X.A.units + 200 < cLine) (ho : PE X o td) (hi : PE X i ty) (hv : PE X value tv) (hs : swapsWith value (some (.Subscript o i pos')) pos.line X.env = pure false) :
    PS X (.Assign [.Subscript o i pos'] value pos) (sVPut X.w td ty tv) := by
  refine ⟨fun pins s σ H D I h => ?_⟩
  refine wpAny_Assign_Subscript (thn (hv.run pins s σ H _ I h) fun r s1 ⟨v, H1, I1, rv, q1⟩ => thn (ho.run pins s1 σ H1 _ I1 q1) fun u s2 ⟨x, H2, I2, rx, q2⟩ => thn (hi.run pins s2 σ H2 _ I2 q2) fun iv s3 ⟨y, H3, I3, ry, a, b, k, xs, ep, ex, ey, vc, vk, hl, q3⟩ => ?_) hs
  subst ex
  subst ey
  obtain rfl : u = Value.ref a := rx
  obtain rfl : iv = Value.ref b := ry
  obtain ⟨c1, c2, c3, _⟩ := vc.of I3.hok
  refine wpAny_setItem_heap (hsz := c2) (room_nested hu) (vk.is I3.hok) c3 fun h' hm' hs' => ?_
  have hl2 : (storedH xs k b r).length ≤ sizeLine := by have := storedH_le xs k b r; omega
  obtain ⟨ep', raw⟩ := RawV.of c1 hl2 hm'
  have he : ∃ q, h'.get? a = some q := let ⟨q, _, _, hq, _⟩ := hm'; ⟨q, hq⟩
  exact ⟨σ, _, d_write I3 (by rw [vc.1]; exact True.intro) hs' he raw.ok, q3 r ep' rv⟩
theorem raw_new (w : World) (h : Heap) (hb : sysModules < h.objs.size) : RawV w h.objs.size [] 0 (h.push { cls := .type "dict", data := .dict #[] }) :=
  ⟨beq_eq_false_iff_ne.mpr (Ne.symm (Nat.ne_of_lt hb)), Nat.zero_le _, _, #[], Heap.get?_push_size _ rfl, ⟨rfl, rfl, rfl⟩, rfl, rfl, List.nodup_nil⟩
theorem pe_vnew : PE X (.Dict [] [] pos) (tVNew X.w) := ⟨fun pins s σ H Q I h =>
  wpAny_Dict_empty ⟨.ref s.heap.objs.size, _, I.laid (a := s.heap.objs.size) (t' := s.toks) (fun _ _ q => Heap.get?_push_of_some _ q) (Nat.le_refl _) (raw_new X.w s.heap I.big).ok, rfl, h _ (I.hok.fresh (Nat.le_refl _))⟩⟩
theorem pe_vdisp {k v : Expr} {tk tw : TE} (hu : X.A.units + 200 < cLine) (hk : PE X k tk) (hv : PE X v tw) : PE X (.Dict [some k] [v] pos) (tVDisp X.w tk tw) := by
  refine ⟨fun pins s σ H Q I q => ?_⟩
  have hn := I.hok.fresh (Nat.le_refl s.heap.objs.size)
  have I1 := I.laid (a := s.heap.objs.size) (h' := s.heap.push { cls := .type "dict", data := .dict #[] }) (t' := s.toks) (fun _ _ q => Heap.get?_push_of_some _ q) (Nat.le_refl _) (raw_new X.w s.heap I.big).ok
  have hsh := zip_pairTrees [some k] [v] X.env pos rfl rfl
  rw [arm_eval_Dict, hsh, dictDisplay_pairs _ (by intro z; cases z) (by show (1 : Nat) < 17; decide)]
  refine wpAny_bind (wpAny_standAt (wpAny_bind (wpAny_subDictH (knd := nestedKind X.prog X.w) (Q := fun d s' => wpAny (model X.prog X.w) X.A (pure (Value.ref d)) _ _ s') (room_nested0 hu) (by show (1 : Nat) ≤ 15; decide) ?_)))
  refine pairTrees_cons_walk (thn (hk.run pins _ σ _ _ I1 (q _ hn)) fun kv s1 ⟨x, H1, J1, rx, q1⟩ => thn (hv.run pins s1 σ H1 _ J1 q1) fun vv s2 ⟨y, H2, J2, ry, e2, kk, b, ex, vk, q2⟩ => ?_)
  subst ex
  obtain rfl : kv = Value.ref b := rx
  refine pairTrees_nil_walk ⟨[(kk, b, vv)], ⟨rfl, rfl, vk.is J2.hok, True.intro⟩, ?_, fun h' tok hm' hs' => wpAny_pure ?_⟩
  · have vc : VC X.w H2 s.heap.objs.size [] 0 := ⟨e2, fun x hx => nomatch hx⟩
    exact (vc.of J2.hok).2.2.1
  · have vc : VC X.w H2 s.heap.objs.size [] 0 := ⟨e2, fun x hx => nomatch hx⟩
    obtain ⟨ep', raw⟩ := RawV.of (vc.of J2.hok).1 (by show (1 : Nat) ≤ sizeLine; rw [sizeLine_eq]; omega) hm'
    have he : ∃ q, h'.get? s.heap.objs.size = some q := let ⟨q, _, _, hq, _⟩ := hm'; ⟨q, hq⟩
    exact ⟨.ref s.heap.objs.size, _, d_write J2 (by rw [e2]; exact True.intro) hs' he raw.ok, rfl, q2 vv ep' ry⟩
end
def Itv2 (w : World) (d : Addr) (xs : List (NestedKey × Addr × Value)) (ep : Nat) : It :=
  ⟨fun i H => VC w H d xs ep ∧ i < xs.length, fun i H x H' => H' = H ∧ ∃ p, xs[i]? = some p ∧ x = .ref p.2.1, fun i H => VC w H d xs ep ∧ xs.length ≤ i⟩
theorem turn_keysV {P : Program} {w : World} {K : PySem.W.Frag} {tg : Expr} {d : Addr} {xs : List (NestedKey × Addr × Value)} {ep : Nat} (it : Addr) : Turn P w K tg (Itv2 w d xs ep) [it] it (fun i h => h.IsKeyIter it d i xs.length ep) where
  mem := by simp
  obj := fun i h st b hb => by
    have e : b = it := by simpa using hb
    subst e
    obtain ⟨oi, e, c, dd⟩ := st
    exact ⟨oi, e, fun v z => by rw [dd] at z; cases z⟩
  keep := fun i h h' st k => st.at fun oi e => k it (by simp) oi e
  item := by
    intro X hP hw hK hc i pins s σ H E I hf st hg
    subst hP hw hK
    obtain ⟨hd, hi⟩ := hg
    obtain ⟨f0, f1, f2, f3, f4, f5⟩ := hf it (by simp)
    obtain ⟨c1, c2, c3, o, es, hgd, hx, hdt, hes⟩ := hd.of I.hok
    have hsz : es.size = xs.length := by rw [← Array.length_toList, hes, List.length_map]
    have hen : es[i]? = some (entV X.w xs[i]) := by
      rw [← Array.getElem?_toList, hes, List.getElem?_map, List.getElem?_eq_getElem hi]; rfl
    refine next_key_item st hgd hdt hsz hen fun h' st' sb => ?_
    have I1 : Inv X pins σ H { s with heap := h' } := I.turned (t' := s.toks) (fun b ob hb e => (sb.2 b hb).trans e) f0 f1 f3 f4 f5
    obtain ⟨oi, e, c, dd⟩ := id st'
    exact ⟨_, rfl, go_of (s := { s with heap := h' }) e c dd (by decide) ⟨.ref xs[i].2.1, H, I1, rfl, ⟨rfl, xs[i], List.getElem?_eq_getElem hi, rfl⟩, st', fun b hb => (hf b hb).1⟩⟩
  done := by
    intro X hP hw hK hc i pins s σ H E I hf st hg
    subst hP hw hK
    obtain ⟨hd, hi⟩ := hg
    obtain ⟨f0, f1, f2, f3, f4, f5⟩ := hf it (by simp)
    obtain ⟨c1, c2, c3, o, es, hgd, hx, hdt, hes⟩ := hd.of I.hok
    have hsz : es.size = xs.length := by rw [← Array.length_toList, hes, List.length_map]
    exact next_key_end (I.ok.hd hc) st hgd hdt hsz hi fun h' eb => ⟨rfl, I.turned (t' := s.toks) (fun b ob hb e => eb b ob hb e) f0 f1 f3 f4 f5⟩
  self := fun A i s Q E st h => by
    refine wpAny_pyIter_slot st.typeIs F.slot_dict_keyiterator_iter (wpAny_call_entry F.slot_dict_keyiterator_iter st.typeIs F.entry_dict_keyiterator_iter ?_ (F.args_dict_keyiterator_iter_1 _))
    show wpAny _ _ (PySem.ret (Value.ref it)) _ _ s
    exact wpAny_pure ⟨_, rfl, "dict_keyiterator", _, st.typeIs, F.slot_dict_keyiterator_next.lookup, h⟩
def iKeysV (w : World) (td : TE) : TI := fun σ H R => td σ H fun x H1 => ∃ d xs ep, x = .ref d ∧ VC w H1 d xs ep ∧ R (Itv2 w d xs ep) H1
theorem pi_keysV {X : Cx} {tg e : Expr} {td : TE} (he : PE X e td) : PI X tg e (iKeysV X.w td) := by
  refine ⟨fun pins s σ H R I h => ?_⟩
  refine thn (he.run pins s σ H _ I h) fun u s1 ⟨x, H1, I1, rx, d, xs, ep, ex, vc, q⟩ => ?_
  subst ex
  obtain rfl : u = Value.ref d := rx
  obtain ⟨c1, c2, c3, o, es, hgd, hx, hdt, hes⟩ := vc.of I1.hok
  have hsz : es.size = xs.length := by rw [← Array.length_toList, hes, List.length_map]
  refine iter_keys c1 hgd hx hdt (pi_one (tk := s1.toks) I1 _ (turn_keysV _) ⟨_, Heap.get?_push_size _ rfl, rfl, ?_⟩ q)
  rw [hsz] <;> rfl
end Dn

set_option Elab.async false
set_option linter.all false
set_option maxRecDepth 100000
set_option maxHeartbeats 1000000
namespace Dn
open PySem L2
section
variable {Hf H : Hp} {kvs : List (NestedKey × D)} {xs : List (NestedKey × Addr × Value)}
theorem keyV_key (x : Ex Hf H) (r : Paired (KeyV Hf) kvs xs) : ∀ y ∈ xs, VKey H y.1 y.2.1 := by
  induction r with
  | nil => intro y hy; exact nomatch hy
  | @cons p q ps qs h t ih =>
    intro y hy
    rcases List.mem_cons.mp hy with e | hy
    · subst e
      obtain ⟨h1, h2, h3, _⟩ := h
      rw [h1] at h2 h3
      exact ⟨Hf, x, h3, h2⟩
    · exact ih y hy
theorem keyV_len (r : Paired (KeyV Hf) kvs xs) : kvs.length = xs.length := Paired.length r
theorem keyV_val (k : NestedKey) (r : Paired (KeyV Hf) kvs xs) : (atKey xs k = none ∧ gvK kvs k = none) ∨ ∃ p d u, atKey xs k = some p ∧ gvK kvs k = some d ∧ RelV u p.2 ∧ Dd Hf u d := by
  induction r with
  | nil => exact .inl ⟨rfl, rfl⟩
  | @cons p q ps qs h t ih =>
    obtain ⟨h1, _, _, u, h2, h3⟩ := h
    by_cases e : p.1 = k
    · have e' : q.1 = k := h1.symm.trans e
      exact .inr ⟨q.2, p.2, u, by simp [atKey, List.find?_cons, e'], by simp [gvK, List.find?_cons, e], h2, h3⟩
    · have e' : ¬ q.1 = k := fun z => e (h1.trans z)
      have b1 : atKey (q :: qs) k = atKey qs k := by simp [atKey, List.find?_cons, e']
      have b2 : gvK (p :: ps) k = gvK ps k := by simp [gvK, List.find?_cons, e]
      rw [b1, b2]; exact ih
theorem keyV_some (k : NestedKey) (r : Paired (KeyV Hf) kvs xs) : (atKey xs k).isSome = (gvK kvs k).isSome := by
  rcases keyV_val k r with ⟨h1, h2⟩ | ⟨p, d, u, h1, h2, _⟩ <;> rw [h1, h2] <;> rfl
theorem keyV_map (k : NestedKey) {u : V} {r : Value} {d : D} (ru : RelV u r) (hd : Dd Hf u d) (rr : Paired (KeyV Hf) kvs xs) : Paired (KeyV Hf) (kvs.map fun p => if p.1 = k then (p.1, d) else p) (xs.map (putAt k r)) := by
  induction rr with
  | nil => exact .nil
  | @cons p q ps qs h t ih =>
    rw [List.map_cons, List.map_cons]
    refine .cons ?_ ih
    obtain ⟨h1, h2, h3, h4⟩ := h
    unfold putAt
    by_cases e : p.1 = k
    · rw [if_pos e, if_pos (h1.symm.trans e)]; exact ⟨h1, h2, h3, u, ru, hd⟩
    · rw [if_neg e, if_neg (fun z => e (h1.trans z))]; exact ⟨h1, h2, h3, h4⟩
theorem keyV_put {k : NestedKey} {b : Addr} {u : V} {r : Value} {d : D} (hk : Dd Hf (.ref b) k.data) (hdp : k.depth ≤ 8) (ru : RelV u r) (hd : Dd Hf u d) (rr : Paired (KeyV Hf) kvs xs) : Paired (KeyV Hf) (gpK kvs k d) (storedH xs k b r) := by
  have any : (kvs.any fun p => decide (p.1 = k)) = (atKey xs k).isSome := by
    rw [keyV_some k rr]
    unfold gvK
    rw [Option.isSome_map, List.isSome_find?]
  unfold gpK storedH
  rw [any]
  by_cases q : (atKey xs k).isSome = true
  · rw [if_pos q, if_pos q]; exact keyV_map k ru hd rr
  · rw [if_neg q, if_neg q]; exact Paired.snoc rr ⟨rfl, hdp, hk, u, ru, hd⟩
end
open Classical in
noncomputable def dVM (w : World) (o : S) : M (Nat × List (NestedKey × D)) := fun cs => match o with
  | .cel j => match cs[j]? with
    | some (.dV w' kvs) => if w' = w then .ok (j, kvs) cs else .no
    | _ => .no
  | _ => .no
def tkM (i : S) : M NestedKey := match i with
  | .d x => ofO (tkD x)
  | _ => stuck
def eDicV (w : World) (_ : List S) : M Rv := ret (.own (.dV w []))
def eDicV1 (w : World) (fk fv : List S → M S) (ρ : List S) : M Rv := bnd (fk ρ) fun k => bnd (fv ρ) fun v => bnd (tkM k) fun y => match v with
  | .d x => ret (.own (.dV w [(y, x)]))
  | _ => stuck
noncomputable def cInV (w : World) (neg : Bool) (fi fo : List S → M S) (ρ : List S) : M Bool := bnd (fi ρ) fun i => bnd (fo ρ) fun o => bnd (dVM w o) fun p => bnd (tkM i) fun k => ret (if neg = true then !(gvK p.2 k).isSome else (gvK p.2 k).isSome)
noncomputable def sSubV (w : World) (fo fi fe : List S → M S) : G := fun ρ => stp (bnd (fe ρ) fun e => bnd (fo ρ) fun o => bnd (fi ρ) fun i => bnd (dVM w o) fun p => bnd (tkM i) fun k => match e with
  | .d x => if p.2.length < sizeLine then putM p.1 (.dV w (gpK p.2 k x)) else stuck
  | _ => stuck) (fun _ cs => .nx ρ cs) ρ
/-- [k for k in d] -/
noncomputable def eKeysV (w : World) (i : Nat) (fo : List S → M S) (ρ : List S) : M Rv := bnd (fo ρ) fun o => bnd (dVM w o) fun p => if i < ρ.length ∧ p.2.length ≤ sizeLine then ret (.own (.lst (p.2.map fun q => q.1.data))) else stuck
section
variable {X : Cx} {W : WX} {B : Hp} {ca : List Addr} {Hf H : Hp} {ρ : List S} {σ : L2.St} {cs : Store} {β : Type} {P : List Addr → Hp → Hp → Store → β → Prop}
theorem dVM_ {w : World} {a : S} {k : Nat × List (NestedKey × D) → M β} (h : Gs X W B ca Hf ρ σ (bnd (dVM w a) k cs) P) : ∃ j kvs, a = .cel j ∧ cs[j]? = some (.dV w kvs) ∧ Gs X W B ca Hf ρ σ (k (j, kvs) cs) P := by
  unfold bnd dVM at h
  cases a with
  | cel j =>
    cases e : cs[j]? with
    | none => simp only [e] at h; exact h.elim
    | some o =>
      cases o with
      | dV w' kvs =>
        simp only [e] at h
        by_cases q : w' = w
        · subst q
          simp only [if_true] at h
          exact ⟨j, kvs, rfl, e, h⟩
        · simp only [if_neg q] at h
          exact h.elim
      | _ => simp only [e] at h; exact h.elim
  | _ => exact h.elim
theorem tkM_ {a : S} {k : NestedKey → M β} (h : Gs X W B ca Hf ρ σ (bnd (tkM a) k cs) P) : ∃ x y, a = .d x ∧ tkD x = some y ∧ Gs X W B ca Hf ρ σ (k y cs) P := by
  cases a with
  | d x =>
    have h' : Gs X W B ca Hf ρ σ (bnd (ofO (tkD x)) k cs) P := h
    obtain ⟨y, e, h2⟩ := ofOb_ h'
    exact ⟨x, y, rfl, e, h2⟩
  | _ => exact h.elim
theorem ty_dV {w : World} {j : Nat} {kvs : List (NestedKey × D)} {x : V} (r : Rel B ca ρ cs Hf σ H) (hx : SvOk ca Hf (.cel j) x) (e : cs[j]? = some (.dV w kvs)) : ∃ l xs ep, x = .ref l ∧ ca[j]? = some l ∧ VC w H l xs ep ∧ Paired (KeyV Hf) kvs xs := by
  obtain ⟨l, h1, rfl⟩ := hx
  obtain ⟨a, g0, g⟩ := r.cells j _ e
  rw [h1] at g0; cases g0
  obtain ⟨xs, ep, g1, g2⟩ := g
  exact ⟨l, xs, ep, rfl, h1, ⟨g1, keyV_key r.ext g2⟩, g2⟩
theorem ty_tk {d : D} {k : NestedKey} {y : V} (hy : SvOk ca Hf (.d d) y) (e : tkD d = some k) : ∃ b, y = .ref b ∧ Dd Hf (.ref b) k.data ∧ k.depth ≤ 8 := by
  obtain ⟨⟨ds, rfl⟩, e2, e3⟩ := tkD_tup e
  have hd : Dd Hf y (.tuple ds) := hy
  cases hd with
  | tup h1 h2 => exact ⟨_, rfl, by rw [e2]; exact .tup h1 h2, e3⟩
end
section
variable {X : Cx} {W : WX} {o i e f k v : Expr} {fo fi fe fk fv : List S → M S} {pos pos' p : Pos}
theorem do_dicV : DO X W (.Dict [] [] pos) (eDicV X.w) := by
  refine ⟨_, pe_vnew, fun B ca ρ cs Hf σ H Q r h => ?_⟩
  intro p hp
  obtain ⟨m1, m2, m3⟩ := r.newIn hp
  have h2 : Gs X W B ca Hf ρ σ (ret (.own (.dV X.w [])) cs) (fun ca' Hf' H' _ rv => ∀ v, RvOk B ca' Hf' H' rv v → Q v H') := h
  exact h2 ca Hf _ Nx.refl (r.grow (ex_new hp)) _ ⟨p, rfl, ⟨[], 0, upd_same, .nil⟩, m1, m2, m3⟩
theorem do_dicV1 (hu : X.A.units + 200 < cLine) (hk : DE X W k fk) (hv : DE X W v fv) : DO X W (.Dict [some k] [v] pos) (eDicV1 X.w fk fv) := by
  obtain ⟨tk, pk, kk⟩ := hk
  obtain ⟨tv, pv, kv⟩ := hv
  refine ⟨_, pe_vdisp hu pk pv, fun B ca ρ cs Hf σ H Q r h => ?_⟩
  intro p hp
  obtain ⟨m1, m2, m3⟩ := r.newIn hp
  have e0 : Ex B (upd B p (.ext (RawV X.w p [] 0))) := ex_new m3
  have r0 := r.banned (o := .ext (RawV X.w p [] 0)) hp
  refine kk _ ca ρ cs Hf σ _ _ r0 ((h.bind.less e0).mono fun ca1 Hf1 H1 cs1 s1 n1 r1 h1 x hx => ?_)
  refine kv _ ca1 ρ cs1 Hf1 σ H1 _ r1 ((h1.bind.less e0).mono fun ca2 Hf2 H2 cs2 s2 n2 r2 h2 y hy => ?_)
  obtain ⟨z, ky, rfl, e2, h3⟩ := tkM_ h2
  cases s2 with
  | d zz =>
    obtain ⟨b, rfl, hb, hdp⟩ := ty_tk (hx.nx n2) e2
    refine ⟨r2.exb p _ upd_same, ky, b, rfl, ⟨Hf2, r2.ext, hb, hdp⟩, fun rr ep' hr => ?_⟩
    obtain ⟨r3, d1, d2⟩ := r2.unban (o' := .ext (RawV X.w p [(ky, b, rr)] ep')) m3
    exact h3 ca2 Hf2 _ Nx.refl r3 _ ⟨p, rfl, ⟨[(ky, b, rr)], ep', upd_same, .cons ⟨rfl, hdp, hb, y, hr, hy⟩ .nil⟩, d1, d2, m3⟩
  | _ => exact h3.elim
theorem inV_run {neg : Bool} {ti to : TE} {R : Bool → Hp → Prop}
    (ki : ∀ (B : Hp) (ca : List Addr) (ρ : List S) (cs : Store) (Hf : Hp) (σ : L2.St) (H : Hp) (Q : VK), Rel B ca ρ cs Hf σ H → Gs X W B ca Hf ρ σ (fi ρ cs) (fun ca' Hf' H' _ s => ∀ v, SvOk ca' Hf' s v → Q v H') → ti σ H Q)
    (ko : ∀ (B : Hp) (ca : List Addr) (ρ : List S) (cs : Store) (Hf : Hp) (σ : L2.St) (H : Hp) (Q : VK), Rel B ca ρ cs Hf σ H → Gs X W B ca Hf ρ σ (fo ρ cs) (fun ca' Hf' H' _ s => ∀ v, SvOk ca' Hf' s v → Q v H') → to σ H Q)
    {B : Hp} {ca : List Addr} {ρ : List S} {cs : Store} {Hf : Hp} {σ : L2.St} {H : Hp} (r : Rel B ca ρ cs Hf σ H) (h : Gs X W B ca Hf ρ σ (cInV X.w neg fi fo ρ cs) (fun _ _ H' _ b => R b H')) :
    tVIn X.w neg ti to σ H (fun v H' => ∃ b, v = .bl b ∧ R b H') := by
  refine ki B ca ρ cs Hf σ H _ r (h.bind.mono fun ca1 Hf1 H1 cs1 s1 n1 r1 h1 y hy => ?_)
  refine ko B ca1 ρ cs1 Hf1 σ H1 _ r1 (h1.bind.mono fun ca2 Hf2 H2 cs2 s2 n2 r2 h2 x hx => ?_)
  obtain ⟨j, kvs, rfl, e1, h3⟩ := dVM_ h2
  obtain ⟨z, kk, rfl, e2, h4⟩ := tkM_ h3
  obtain ⟨l, xs, ep, rfl, c1, c2, c3⟩ := ty_dV r2 hx e1
  obtain ⟨b, rfl, hb, hdp⟩ := ty_tk (hy.nx n2) e2
  refine ⟨l, b, kk, xs, ep, rfl, rfl, c2, ⟨Hf2, r2.ext, hb, hdp⟩, _, rfl, ?_⟩
  rw [keyV_some kk c3]
  exact h4.ret_ r2
theorem dt_ninV (hu : X.A.units + 200 < cLine) (hi : DE X W i fi) (ho : DE X W o fo) (hb : behindInMarks .NotIn o = false := by rfl) : DT X W (.Compare i [.NotIn] [o] pos) (cInV X.w true fi fo) := by
  obtain ⟨ti, pi, ki⟩ := hi
  obtain ⟨to, po, ko⟩ := ho
  exact ⟨_, pt_cmp (pc_vnin hu pi po) hb, fun B ca ρ cs Hf σ H Q r h => inV_run ki ko r h⟩
theorem dst_subV (hu : X.A.units + 200 < cLine) (he : DE X W e fe) (ho : DE X W o fo) (hi : DE X W i fi) (hs : swapsWith e (some (.Subscript o i pos')) pos.line X.env = pure false := by rfl) : DSt X W (.Assign [.Subscript o i pos'] e pos) (sSubV X.w fo fi fe) := by
  obtain ⟨te, pe, ke⟩ := he
  obtain ⟨to, po, ko⟩ := ho
  obtain ⟨ti, pi, ki⟩ := hi
  refine ⟨_, ps_vput hu po pi pe hs, fun B ca ρ cs Hf σ H En r hg => ?_⟩
  refine ke B ca ρ cs Hf σ H _ r (hg.stp_.bind.mono fun ca1 Hf1 H1 cs1 s1 n1 r1 h1 v hv => ?_)
  refine ko B ca1 ρ cs1 Hf1 σ H1 _ r1 (h1.bind.mono fun ca2 Hf2 H2 cs2 s2 n2 r2 h2 x hx => ?_)
  refine ki B ca2 ρ cs2 Hf2 σ H2 _ r2 (h2.bind.mono fun ca3 Hf3 H3 cs3 s3 n3 r3 h3 y hy => ?_)
  obtain ⟨j, kvs, rfl, e1, h4⟩ := dVM_ h3
  obtain ⟨z, kk, rfl, e2, h5⟩ := tkM_ h4
  obtain ⟨l, xs, ep, rfl, c1, c2, c3⟩ := ty_dV r3 (hx.nx n3) e1
  obtain ⟨b, rfl, hb, hdp⟩ := ty_tk hy e2
  cases s1 with
  | d z =>
    have h6 : Gs X W B ca3 Hf3 ρ σ ((if kvs.length < sizeLine then putM j (.dV X.w (gpK kvs kk z)) else stuck) cs3) _ := h5
    split at h6
    · rename_i hl
      have hz : Dd Hf3 v z := dp_ex n3.ex (dp_ex n2.ex hv)
      refine ⟨l, b, kk, xs, ep, rfl, rfl, c2, ⟨Hf3, r3.ext, hb, hdp⟩, by rw [← keyV_len c3]; exact hl, fun rr ep' hr => ?_⟩
      have r4 : Rel B ca3 ρ (cs3.set j (.dV X.w (gpK kvs kk z))) Hf3 σ (upd H3 l (.ext (RawV X.w l (storedH xs kk b rr) ep'))) := r3.write c1 (fun _ _ z => by rw [c2.1] at z; cases z) ⟨_, ep', upd_same, keyV_put hb hdp hr hz c3⟩
      exact GO.nx_ (h6 ca3 Hf3 _ Nx.refl r4) r4
    · exact h6.elim
  | _ => exact h5.elim
end
end Dn

set_option Elab.async false
set_option linter.all false
set_option maxRecDepth 100000
set_option maxHeartbeats 1000000
namespace Dn
open PySem L2
/-- what stands beside Hf, the new list at Dd being vs -/
def pinB (Hf H : Hp) (L : Addr) (vs : List V) : Hp := fun a => match Hf a with
  | none => upd H L (.lst vs) a
  | some _ => none
theorem pinB_none {Hf H : Hp} {L a : Addr} {vs : List V} (h : Hf a = none) : pinB Hf H L vs a = upd H L (.lst vs) a := by unfold pinB; rw [h]
theorem pinB_hf {Hf H : Hp} {L a : Addr} {vs : List V} (h : pinB Hf H L vs a ≠ none) : Hf a = none := by
  unfold pinB at h
  cases e : Hf a with
  | none => rfl
  | some u => rw [e] at h; exact absurd rfl h
theorem rel_pin0 {B : Hp} {ca : List Addr} {ρ ρ0 : List S} {cs : Store} {Hf H1 : Hp} {σ σ' : L2.St} {L : Addr} (r : Rel B ca ρ cs Hf σ H1) (hL : H1 L = none) (h0 : ∀ (i : Nat) (s : S), ρ0[i]? = some s → s = .no) (hl : σ'.length = ρ0.length) :
    Rel (pinB Hf H1 L []) [] ρ0 [] Hf σ' (upd H1 L (.lst [])) := by
  refine ⟨fun a o e => ?_, hl, fun i s e => .inl (h0 i s e), fun j o e => by simp at e, rfl, List.nodup_nil, fun a ha => by simp at ha, fun a o e => ?_, fun a e => ⟨pinB_hf e, .inl (by simp)⟩⟩
  · have h := r.ext a o e
    by_cases q : a = L
    · subst q; rw [hL] at h; cases h
    · rw [upd_ne q]; exact h
  · have q := pinB_hf (a := a) (by rw [e]; simp)
    rw [pinB_none q] at e
    exact e
theorem rel_pinS {ρ0 ρ' : List S} {Hf Hf2 H1 H : Hp} {σ σ' : L2.St} {L : Addr} {vs : List V} {v : V} (r : Rel (pinB Hf H1 L vs) [] ρ' [] Hf2 σ H) (hf : Hf L = none) (h0 : ∀ (i : Nat) (s : S), ρ0[i]? = some s → s = .no) (hl : σ'.length = ρ0.length) :
    Rel (pinB Hf H1 L (vs ++ [v])) [] ρ0 [] Hf2 σ' (upd H L (.lst (vs ++ [v]))) := by
  have old : ∀ a, pinB Hf H1 L (vs ++ [v]) a ≠ none → pinB Hf H1 L vs a ≠ none := fun a e => by
    have q := pinB_hf e
    rw [pinB_none q] at e ⊢
    by_cases z : a = L
    · subst z; rw [upd_same]; simp
    · rw [upd_ne z] at e ⊢; exact e
  have L2 : Hf2 L = none := (r.dis L (by rw [pinB_none hf, upd_same]; simp)).1
  refine ⟨fun a o e => ?_, hl, fun i s e => .inl (h0 i s e), fun j o e => by simp at e, rfl, List.nodup_nil, fun a ha => by simp at ha, fun a o e => ?_, fun a e => ⟨(r.dis a (old a e)).1, .inl (by simp)⟩⟩
  · by_cases q : a = L
    · subst q; rw [L2] at e; cases e
    · rw [upd_ne q]; exact r.ext a o e
  · have q := pinB_hf (a := a) (by rw [e]; simp)
    rw [pinB_none q] at e
    by_cases z : a = L
    · subst z; rw [upd_same] at e ⊢; exact e
    · rw [upd_ne z] at e ⊢
      exact r.exb a o (by rw [pinB_none q, upd_ne z]; exact e)
theorem rel_back {B : Hp} {ca : List Addr} {ρ ρ' : List S} {cs : Store} {Hf Hf2 H1 H : Hp} {σ σ' : L2.St} {L : Addr} {vs : List V} (r1 : Rel B ca ρ cs Hf σ H1) (hL : H1 L = none) (x : Ex Hf Hf2) (r : Rel (pinB Hf H1 L vs) [] ρ' [] Hf2 σ' H) :
    Rel B ca ρ cs Hf2 σ H ∧ H L = some (.lst vs) ∧ Hf2 L = none ∧ L ∉ ca ∧ B L = none := by
  obtain ⟨m1, m2, m3⟩ := r1.newIn hL
  have pin : ∀ a o, H1 a = some o → Hf a = none → pinB Hf H1 L vs a = some o := fun a o e q => by
    rw [pinB_none q]
    by_cases z : a = L
    · subst z; rw [hL] at e; cases e
    · rw [upd_ne z]; exact e
  have ex : Ex H1 H := fun a o e => by
    cases q : Hf a with
    | none => exact r.exb a o (pin a o e q)
    | some u =>
      have := r1.ext a u q
      rw [e] at this
      cases this
      exact r.ext a o (x a o q)
  have dead : ∀ a, H1 a ≠ none → Hf a = none → Hf2 a = none := fun a e q => by
    cases w : H1 a with
    | none => exact absurd w e
    | some o => exact (r.dis a (by rw [pin a o w q]; simp)).1
  have g := r1.grow ex
  have n : Nx ca Hf ca Hf2 := ⟨List.prefix_refl _, x⟩
  refine ⟨⟨r.ext, g.len, fun i s e => ?_, fun j o e => ?_, g.lenc, g.nd, fun a ha => dead a (r1.there ha) (r1.off a ha), g.exb, fun a e => ?_⟩, r.exb L _ (by rw [pinB_none m1, upd_same]), (r.dis L (by rw [pinB_none m1, upd_same]; simp)).1, m2, m3⟩
  · rcases g.sl i s e with z | ⟨v, z1, z2⟩
    · exact .inl z
    · exact .inr ⟨v, z1, z2.nx n⟩
  · obtain ⟨a, z1, z2⟩ := g.cells j o e
    exact ⟨a, z1, z2.at rfl x⟩
  · obtain ⟨z1, z2⟩ := r1.dis a e
    refine ⟨dead a ?_ z1, z2⟩
    cases q : B a with
    | none => exact absurd q e
    | some o => rw [r1.exb a o q]; simp
section
variable {X : Cx} {W : WX} {o elt tg : Expr} {scope : Scope} {pos : Pos} {fo : List S → M S}
theorem do_keysV (i : Nat) (own : List (Str × Nat)) (hN : X.N.Nodup) (ho : DE X W o fo)
    (hg : ∀ (s : Shared) (H : Hp) (C : Addr) (cl : List (Str × Addr)) (fp : List Addr), DGb (X.blk s H scope (compEnvC scope cl C X.env) fp) (own.map (·.2)) tg (gtN i))
    (he : ∀ (s : Shared) (H : Hp) (C : Addr) (cl : List (Str × Addr)) (fp : List Addr), DE (X.blk s H scope (compEnvC scope cl C X.env) fp) Wf elt (eV i))
    (hk : blkC X.N X.env.scope scope own = true := by rfl) (hc : X.calm = true := by rfl) (hs : ∀ x, foldedSetIterable o X.env x = pure x := by intro _; rfl) :
    DO X W (.ListComp elt [⟨tg, o, [], 0⟩] scope pos) (eKeysV X.w i fo) := by
  obtain ⟨to, po, ko⟩ := ho
  refine ⟨_, pe_lc (g := tgOf (gtN i) (own.map (·.2))) (tt := ttOf X tYesM) (te := teOf X (eV i)) hc hN (pi_keysV po) (blkOk_by hk) (fun s H C cl fp => ?_) (fun s H C cl fp => ?_) (fun s H C cl fp => ?_) hs, fun B ca ρ cs Hf σ H Q r h => ?_⟩
  · obtain ⟨t', p, k⟩ := hg s H C cl fp
    exact ⟨fun pins s σ H v u Q I rv ⟨B, ca, ρ, ρ', cs, Hf, d, r, hd, e, q⟩ => p.run pins s σ H v u Q I rv (k B ca ρ ρ' cs Hf σ H v d Q r hd e q)⟩
  · obtain ⟨t', p, k⟩ := (dts_nil : DTs (X.blk s H scope (compEnvC scope cl C X.env) fp) Wf [] tYesM)
    exact ⟨fun pins s σ H Q I ⟨B, ca, ρ, cs, Hf, r, h⟩ => p.run pins s σ H Q I (k B ca ρ cs Hf σ H Q r h)⟩
  · obtain ⟨t', p, k⟩ := he s H C cl fp
    exact ⟨fun pins s σ H Q I ⟨B, ca, ρ, cs, Hf, r, h⟩ => p.run pins s σ H Q I (k B ca ρ cs Hf σ H Q r h)⟩
  refine ko B ca ρ cs Hf σ H _ r (h.bind.mono fun ca1 Hf1 H1 cs1 s1 n1 r1 h1 x hx => ?_)
  obtain ⟨j, kvs, rfl, e1, h2⟩ := dVM_ h1
  obtain ⟨l, xs, ep, rfl, c1, c2, c3⟩ := ty_dV r1 hx e1
  have h3 : Gs X W B ca1 Hf1 ρ σ ((if i < ρ.length ∧ kvs.length ≤ sizeLine then ret (.own (.lst (kvs.map fun q => q.1.data))) else stuck) cs1) (fun ca' Hf' H' _ rv => ∀ v, RvOk B ca' Hf' H' rv v → Q v H') := h2
  by_cases hsz : i < ρ.length ∧ kvs.length ≤ sizeLine
  · rw [if_pos hsz] at h3
    refine ⟨l, xs, ep, rfl, c2, fun L hL => ?_⟩
    generalize hvs : own.map (·.2) = vs at *
    have hl := keyV_len c3
    have kd : ∀ (i : Nat) (p : NestedKey × Addr × Value), xs[i]? = some p → Dd Hf1 (.ref p.2.1) p.1.data := fun i p e => by
      obtain ⟨q, hq1, hq2⟩ : ∃ q, kvs[i]? = some q ∧ KeyV Hf1 q p := by
        clear hsz hl h3 h2 e1 c2 hx h1
        induction c3 generalizing i with
        | nil => simp at e
        | @cons a b as bs z t ih =>
          cases i with
          | zero => simp at e; subst e; exact ⟨a, rfl, z⟩
          | succ i => exact ih i (by simpa using e)
      obtain ⟨z1, z2, z3, _⟩ := hq2
      rw [← z1]; exact z3
    have kk : ∀ (i : Nat), (xs.map fun p => p.1.data)[i]? = (kvs.map fun q => q.1.data)[i]? := fun i => by
      clear hsz hl h3 h2 e1 c2 hx h1 kd
      induction c3 generalizing i with
      | nil => rfl
      | @cons a b as bs z t ih =>
        cases i with
        | zero =>
          obtain ⟨z1, _⟩ := z
          simp [z1]
        | succ i => simpa using ih i
    have kl : (xs.map fun p => p.1.data) = kvs.map fun q => q.1.data := List.ext_getElem? kk
    have hz2 := hsz.2
    have hn0 : ∀ (i : Nat) (s : S), (List.replicate σ.length S.no)[i]? = some s → s = .no := fun i s e => by
      rw [List.getElem?_replicate] at e
      split at e
      · cases e; rfl
      · cases e
    have m1 : Hf1 L = none := (r1.newIn hL).1
    have ls : ∀ us : List Nat, (wipe σ us).length = (List.replicate σ.length S.no).length := fun us => by rw [wipe_length, List.length_replicate]
    have vc : ∀ {H2 : Hp} {Hf2 : Hp} {σ2 : L2.St} {acc : List V}, Ex Hf1 Hf2 → Rel (pinB Hf1 H1 L acc) [] (List.replicate σ.length .no) [] Hf2 σ2 H2 → VC X.w H2 l xs ep := fun {H2 Hf2 σ2 acc} x2 r2 => by
      obtain ⟨q, _⟩ := rel_back r1 hL x2 r2
      obtain ⟨l', g1, g2⟩ := q.cells j _ e1
      rw [c1] at g1; cases g1
      have ex : Ex H1 H2 := fun a o e => by
        cases z : Hf1 a with
        | none => exact r2.exb a o (by
            rw [pinB_none z]
            by_cases y : a = L
            · subst y; rw [hL] at e; cases e
            · rw [upd_ne y]; exact e)
        | some u =>
          have := r1.ext a u z
          rw [e] at this
          cases this
          exact r2.ext a o (x2 a o z)
      exact ⟨ex _ _ c2.1, fun y hy => (c2.2 y hy).ex ex⟩
    refine ⟨fun k m H2 => m = xs.length - k ∧ k ≤ xs.length ∧ ∃ acc Hf2, Ex Hf1 Hf2 ∧ Dds Hf2 acc ((xs.map fun p => p.1.data).take k) ∧ Rel (pinB Hf1 H1 L acc) [] (List.replicate σ.length .no) [] Hf2 (wipe σ vs) H2,
      ⟨xs.length, by simp, Nat.zero_le _, [], Hf1, fun _ _ e => e, .nil, rel_pin0 r1 hL hn0 (ls vs)⟩, ?_⟩
    rintro k m H2 ⟨rfl, hk2, acc, Hf2, x2, dd, r2⟩
    by_cases hlt : k < xs.length
    · refine .inr ⟨⟨vc x2 r2, hlt⟩, fun H' => k + 1 ≤ xs.length ∧ ∃ acc Hf2, Ex Hf1 Hf2 ∧ Dds Hf2 acc ((xs.map fun p => p.1.data).take (k + 1)) ∧ Rel (pinB Hf1 H1 L acc) [] (List.replicate σ.length .no) [] Hf2 (wipe σ vs) H', fun H' p' => ⟨_, by omega, rfl, p'.1, p'.2⟩, fun x H3 y => ?_⟩
      obtain ⟨rfl, p, hp, rfl⟩ := y
      have hd : Dd Hf2 (.ref p.2.1) p.1.data := dp_ex x2 (kd k p hp)
      refine ⟨_, [], _, (List.replicate σ.length S.no).set i (.d p.1.data), [], Hf2, p.1.data, r2, hd, rfl, fun σ2 w2 r4 => ⟨w2.trans (wipe_wipe σ vs vs fun _ h => h), ?_⟩⟩
      refine ⟨_, [], _, [], Hf2, r4, ?_⟩
      show Gs _ _ _ _ _ _ _ (ret true []) _
      intro ca4 Hf4 H4 n4 r5
      show (if (true : Bool) = true then _ else _ : Prop)
      rw [if_pos rfl]
      refine ⟨_, ca4, _, [], Hf4, r5, ?_⟩
      have hi' : i < σ.length := by rw [r.len]; exact hsz.1
      have ev : eV i ((List.replicate σ.length S.no).set i (.d p.1.data)) [] = .ok (.d p.1.data) [] := by
        unfold eV
        rw [List.getElem?_set_self (by rw [List.length_replicate]; exact hi')]; rfl
      rw [ev]
      intro ca5 Hf5 H5 n5 r6 v hv
      have e5 : ca5 = [] := List.length_eq_zero_iff.mp r6.lenc
      subst e5
      have x5 : Ex Hf2 Hf5 := fun a o e => n5.ex a o (n4.ex a o e)
      have l5 := dps_len dd
      refine ⟨acc, r6.exb L _ (by rw [pinB_none m1, upd_same]), ?_, hlt, acc ++ [v], Hf5, fun a o e => x5 a o (x2 a o e), ?_, rel_pinS r6 m1 hn0 (ls vs)⟩
      · rw [List.length_take, List.length_map] at l5
        omega
      · rw [List.take_add_one, List.getElem?_map, hp]
        exact dps_app (dps_ex x5 dd) (.cons hv .nil)
    · have e : k = xs.length := by omega
      subst e
      refine .inl ⟨⟨vc x2 r2, Nat.le_refl _⟩, ?_⟩
      obtain ⟨q1, q2, q3, q4, q5⟩ := rel_back r1 hL x2 r2
      rw [List.take_of_length_le (by rw [List.length_map]; omega), kl] at dd
      exact h3 ca1 Hf2 H2 ⟨List.prefix_refl _, x2⟩ q1 _ ⟨L, rfl, ⟨acc, q2, dd⟩, q3, q4, q5⟩
  · rw [if_neg hsz] at h3; exact h3.elim
end
end Dn

set_option Elab.async false
set_option linter.all false
set_option maxRecDepth 100000
set_option maxHeartbeats 1000000
namespace Dn
open PySem L2 PySem.W PyProof.Rows
def isE1 : List D → Bool
  | [.tuple []] => true
  | _ => false
noncomputable def sortDt (xs : List D) : List D := xs.mergeSort (dataLe false id)
noncomputable def sortedTG : List D → Option D
  | [.list xs] => if (decide (xs.length ≤ sizeLine) && (srtOk xs || isE1 xs)) = true then some (.list (sortDt xs)) else none
  | _ => none
section
variable {prog : Program} {w : World} {A : Around} {E : Value → Shared → Prop} {s : Shared}
theorem sortsAt_e1 {vs : List Value} (e : EachIs (fun v d => ∃ as, Reads s.heap v d as) vs [PyData.tuple []]) : SortsAt prog w A s (dataKind s.heap [.tuple []]) vs := by
  have hal : AllAlike [PyData.tuple []] := fun d hd d' hd' => by
    rw [List.mem_singleton] at hd hd'
    subst hd; subst hd'; rfl
  refine ⟨fun v hv => ?_, tuples' true, fun E x y a b Q ha hb hq => ?_, fun h2 => ?_⟩
  · obtain ⟨d, hd, as, r⟩ := e.left v hv
    exact ⟨_, dataKind_some hal hd r⟩
  · obtain ⟨d, as, hd, r, rfl⟩ := dataKind_inv ha
    obtain ⟨d', as', hd', r', rfl⟩ := dataKind_inv hb
    rw [List.mem_singleton] at hd hd'
    subst hd
    subst hd'
    have hq : Q false s := Eq.mp (congrArg (fun b : Bool => Q b s) ((dataKind s.heap [.tuple []]).irrefl (keyToks (.tuple [])))) hq
    cases r with
    | tuple h1 h2 h3 h4 =>
      cases r' with
      | tuple g1 g2 g3 g4 =>
        rename_i a1 o1 xs1 n1 a2 o2 xs2 n2
        refine kat_lt h1 h3 g1 g3 ?_
        cases q1 : xs1.toList with
        | cons z zs => rw [q1] at h4; cases h4
        | nil =>
          have z1 : xs1.size = 0 := by rw [← Array.length_toList, q1]; rfl
          have z2 : xs2.size = 0 := by
            cases q2 : xs2.toList with
            | cons z zs => rw [q2] at g4; cases g4
            | nil => rw [← Array.length_toList, q2]; rfl
          rw [z1, z2]
          exact hq
  · have := e.length
    simp at this
    omega
theorem sorted_any {l : Addr} {vs : List Value} {bs : List D} {R : Value → D → Prop} {Q : Value → Shared → Prop} (hl : s.heap.IsList l vs.toArray) (e : EachIs R vs bs) (er : EachIs (fun v b => ∃ as, Reads s.heap v b as) vs bs) (hk : (srtOk bs || isE1 bs) = true) (hL : bs.length ≤ sizeLine)
    (hu : A.units + 100 < cLine) (h : ∀ out, out.length = bs.length → EachIs R out (sortDt bs) → Q (.ref (s.heap.objs.size + 1)) { s with heap := sortedAll s.heap vs (List.toArray out) }) :
    wpAny (model prog w) A (call (.builtin "sorted") [.ref l]) Q E s := by
  have mi : bs.map (id : D → D) = bs := List.map_id bs
  by_cases hs : srtOk bs = true
  · obtain ⟨h1, h2, h3⟩ := srtOk_of hs
    exact sorted_data (enc := id) (bs := bs) hl e er (by rw [mi]; exact h1) (by rw [mi]; exact h2) hL (fun b hb => by have := h3 b hb; show A.units + 2 + b.depth < cLine; omega) h
  · have he : isE1 bs = true := by simpa [hs] using hk
    have eb : bs = [.tuple []] := by
      unfold isE1 at he
      split at he
      · rfl
      · cases he
    subst eb
    have er' : EachIs (fun v b => ∃ as, Reads (sortingHeap (copyHeap s.heap vs) (s.heap.objs.size + 1) vs) v b as) vs [PyData.tuple []] := er.mono fun _ _ ⟨as, r⟩ => ⟨as, PyProof.Rows.Reads.keeps (fun _ _ => sorting_copy_old) r⟩
    have hal : AllAlike [PyData.tuple []] := fun d hd d' hd' => by
      rw [List.mem_singleton] at hd hd'
      subst hd; subst hd'; rfl
    exact sorted_vals hl (sortsAt_e1 (s := { s with heap := sortingHeap (copyHeap s.heap vs) (s.heap.objs.size + 1) vs }) er') (by rw [e.length]; exact hL)
      (h _ (by rw [sortVals_length false rfl]; exact e.length) (sortVals_data (enc := id) false e er' hal))
end
theorem sortedT_ok {X : Cx} (hu : X.A.units + 200 < cLine) : CallR X (.builtin "sorted") (rCd sortedTG) := by
  intro pins s σ H xs us Q I r h
  obtain ⟨Hf, ds, d, e, ex, hl, q⟩ := h
  unfold sortedTG at e
  split at e
  · rename_i zs
    split at e
    · rename_i hk
      cases e
      rw [Bool.and_eq_true, decide_eq_true_eq] at hk
      obtain ⟨hz, hk⟩ := hk
      obtain ⟨v, rfl, h1⟩ := lvs_one hl
      obtain ⟨l, vs, rfl, g1, g2⟩ := h1.lst
      obtain ⟨its, rv, pl, _⟩ := I.list (.inl g1)
      have hlen : its.length = zs.length := by rw [← rv.length]; exact dps_len g2
      rw [Vals.ref1 r]
      have ei : EachIs (fun u d => ∃ v, RelV v u ∧ Dd Hf v d) its zs := each_dds rv g2
      have er : EachIs (fun v d => ∃ as, Reads s.heap v d as) its zs := (each_nd ei fun d hd => (by
        rcases (show srtOk zs = true ∨ isE1 zs = true by simpa using hk) with hs | he
        · exact nd_self d ((srtOk_of hs).1 d hd d hd)
        · unfold isE1 at he
          split at he
          · rw [List.mem_singleton] at hd
            subst hd
            simp [ndD, ndDs]
          · cases he)).mono fun u d ⟨⟨v, rv', hv⟩, nd⟩ => Dp.reads I d v u (dd_dp _ nd (dp_ex ex hv)) rv'
      refine sorted_any pl.isList ei er hk hz (by omega) fun out ho eo => ?_
      obtain ⟨ws, hw1, hw2⟩ := dds_each eo
      obtain ⟨ep, he'⟩ := PyProof.Rows.sortedAll_at s.heap its out.toArray
      have hwl : ws.length ≤ sizeLine := by rw [hw1.length, ho]; exact hz
      have hp := I.hok.fresh (Nat.le_succ s.heap.objs.size)
      have g := Gw.new (o := .lst ws) ex hp
      exact ⟨.ref _, upd H (s.heap.objs.size + 1) (.lst ws), I.laid (t' := s.toks) (fun _ _ => PyProof.Rows.sortedAll_old) (Nat.le_succ _) ⟨hwl, out, ep, hw1, by simpa using he'⟩, rfl, q _ _ _ g (.lst (.inl upd_same) (dps_ex g.ex hw2))⟩
    · cases e
  · cases e
end Dn

set_option Elab.async false
set_option linter.all false
set_option maxRecDepth 100000
set_option maxHeartbeats 1000000
namespace Dn
open PySem L2
theorem law_endW {l : PySem.W.OpenLaw} {n k : Nat} {q : Program} {loose : List Str} {d : DefRec} {fa : List He.Fa} {fn : List He.DefD} {fb : PySem.W.Frag → Bool} {m : Nat} {XP : (Str → Option Value) → Heap → Prop} {x : Str} {F : World → PySem.W.Frag → List S → M Rv}
    (hn : l.most = some n) (hn2 : n ≤ sizeLine) (hdf : d.params.defaults = []) (hr : Room k callerA)
    (hF : ∀ (w : World) (mg : Str → Option Value) (h : Heap) (K : PySem.W.Frag), K.In h → He.SaysD fa fn K → fb K = true → h.Ns mainGlobals mg → ∃ fd : FuncData, mg d.name = some (.ref (He.ga K d.name)) ∧ (∀ (s : Shared) (u : Value), BindsTo s fd ⟨[u], []⟩ [(x, u)]) ∧
      ∀ base : Heap, K.In base → base.Ns mainGlobals mg → FnG l.prog w K mg base k (He.ga K d.name) fd [x] (spE mg 1 (F w K)))
    (hl : ∀ (w : World) (K : PySem.W.Frag) (ns : List Int), ns.length ≤ n → ∃ cs', F w K [.d (.list (ns.map .int))] [] = .ok (.d (.bool true)) cs') :
    PySem.W.WalkO q loose XP (hookL m fa fn fb).says l.row.toRowW d [] (fun f vs => PySem.call f vs) := by
  refine Att.attach_call hn hdf fun w s0 s1 mg mb ad o pm cd doc a vs ns G Y ho hd hcd hmg hobj hints hlen hg => ?_
  obtain ⟨K, KX, c, cb, hno⟩ := Y
  obtain ⟨fd, hgf, hb, hF'⟩ := hF w mg s1.heap K KX c cb G.T.g
  cases hmg.symm.trans hgf
  exact law_callG KX G.T.g G.T.b G.T.builtins G.T.nolimit hg hobj hints (Nat.le_trans hlen hn2) hr hno hF' hb (hl w K ns hlen)
end Dn

set_option Elab.async false
set_option linter.all false
set_option maxRecDepth 100000
set_option maxHeartbeats 1000000
namespace HT
open PySem PySem.Spec PyProof.Rows L2
section
variable {prog : Program} {w : World} {A : Around} {E : Value → Shared → Prop} {s : Shared}
theorem sliceApplied_rev {sl : Addr} {vl vu vs : Value} {n : Nat} {Q : Int × Int × Nat → Shared → Prop} (hs : s.heap.IsSliceOf sl vl vu vs) (pl : IsPart vl none) (pu : IsPart vu none) (ps : IsPart vs (some (-1)))
    (h : Q ((n : Int) - 1, -1, n) s) : wpAny (model prog w) A (Builtin.Slice.sliceApplied (.ref sl) (pure (n : Int))) Q E s := by
  obtain ⟨os, hos, hcs, hds⟩ := id hs
  unfold Builtin.Slice.sliceApplied Builtin.Slice.sliceFields
  refine wpAny_bind (wpAny_bind (wpAny_field hos hds (x := vl) rfl (wpAny_bind (wpAny_field hos hds (x := vu) rfl (wpAny_bind (wpAny_field hos hds (x := vs) rfl (wpAny_pure ?_)))))))
  refine wpAny_bind (slicePart_ ps ?_)
  show wpAny _ _ (if ((-1 : Int) == 0) = true then _ else _) _ _ s
  rw [if_neg (by decide)]
  refine wpAny_bind (slicePart_ pl (wpAny_bind (slicePart_ pu (wpAny_bind (wpAny_pure ?_)))))
  show wpAny _ _ (match Builtin.Slice.sliceAdjust none none (-1) (n : Int) with | (lo, hi) => pure (lo, (-1 : Int), Builtin.Slice.slicePlaces lo hi (-1))) _ _ s
  have e : Builtin.Slice.sliceAdjust none none (-1) (n : Int) = ((n : Int) - 1, -1) := by
    unfold Builtin.Slice.sliceAdjust
    simp
  rw [e]
  have e2 : Builtin.Slice.slicePlaces ((n : Int) - 1) (-1) (-1) = n := by
    unfold Builtin.Slice.slicePlaces
    simp
    omega
  show wpAny _ _ (pure ((n : Int) - 1, (-1 : Int), Builtin.Slice.slicePlaces ((n : Int) - 1) (-1) (-1))) _ _ s
  rw [e2]
  exact wpAny_pure h
theorem pick_rev (xs : Array Value) : ((List.range xs.size).filterMap fun (m : Nat) => xs[((xs.size : Int) - 1 + (m : Int) * (-1)).toNat]?).toArray = xs.toList.reverse.toArray := by
  have e : ((List.range xs.size).filterMap fun (m : Nat) => xs[((xs.size : Int) - 1 + (m : Int) * (-1)).toNat]?) = ((List.range xs.size).map fun k => xs.size - 1 - k).filterMap (xs[·]?) := by
    rw [List.filterMap_map]
    congr 1
    funext m
    have : ((xs.size : Int) - 1 + (m : Int) * (-1)).toNat = xs.size - 1 - m := by omega
    rw [this]; rfl
  rw [e, PySem.W.krv_range, List.filterMap_reverse, PySem.W.krv_all]
theorem getItem_tuple_rev {t sl : Addr} {items : Array Value} {vl vu vs : Value} {Q : Value → Shared → Prop} (ht : IsTup s.heap t items) (hs : s.heap.IsSliceOf sl vl vu vs) (pl : IsPart vl none) (pu : IsPart vu none) (ps : IsPart vs (some (-1)))
    (h : Q (.ref s.heap.objs.size) { s with heap := s.heap.push { cls := .type "tuple", data := .seq items.toList.reverse.toArray } })
    (hsz : items.size ≤ sizeLine) : wpAny (model prog w) A (getItem (.ref t) (.ref sl)) Q E s := by
  have htake : sizeOk (.seq items.toList.reverse.toArray) := by
    show items.toList.reverse.toArray.size ≤ sizeLine
    rw [List.size_toArray, List.length_reverse, Array.length_toList]
    omega
  obtain ⟨os, hos, hcs, hds⟩ := id hs
  have hTs : s.TypeIs (.ref sl) "slice" := ⟨os, hos, hcs⟩
  unfold getItem
  try with_reducible refine wpAny_holding ?_
  first | refine wpAny_bind (wpAny_pure ?_) | skip
  refine wpAny_bind (wpAny_sequenceKey ht.typeIs (by decide) ?_)
  refine wpAny_bind (wpAny_callSpecial?_slot (name := Str.ofString "__getitem__") ht.typeIs PyProof.Rows.slot_tuple_getitem
    (wpAny_call_entry PyProof.Rows.slot_tuple_getitem ht.typeIs entry_tuple_getitem ?_ (args_tuple_getitem _ _)))
  show wpAny _ _ (Builtin.Tuple.tupleItemsOf (.ref t) >>= _) _ _ s
  refine wpAny_bind (tupleItemsOf_ ht ?_)
  refine wpAny_bind (wpAny_typeOf hTs ?_)
  rw [if_pos (by decide)]
  refine wpAny_bind (sliceApplied_rev hs pl pu ps ?_)
  have hno : ¬ ((((items.size : Int) - 1) == 0 && (-1 : Int) == 1 && items.size == items.size) = true) := by
    intro q
    rw [Bool.and_eq_true, Bool.and_eq_true] at q
    exact absurd q.1.2 (by decide)
  show wpAny _ _ (if (((items.size : Int) - 1) == 0 && (-1 : Int) == 1 && items.size == items.size) = true then _ else _) _ _ s
  rw [if_neg hno, pick_rev]
  first
    | exact wpAny_bind (m := Builtin.Tuple.tupleExact _) (wpAny_newObj_type (wpAny_pure ⟨_, rfl, wpAny_pure h⟩) htake)
    | exact wpAny_bind (m := Builtin.Tuple.tupleExact _) (wpAny_newObj_type (wpAny_bind (wpAny_pure (wpAny_pure ⟨_, rfl, wpAny_pure h⟩))) htake)
    | exact wpAny_bind (wpAny_bind (m := Builtin.Tuple.tupleExact _) (wpAny_newObj_type (wpAny_pure (wpAny_pure ⟨_, rfl, wpAny_pure h⟩)) htake))
    | exact wpAny_bind (wpAny_bind (m := Builtin.Tuple.tupleExact _) (wpAny_newObj_type (wpAny_pure ⟨_, rfl, wpAny_pure h⟩) htake))
end
end HT
namespace Dn
open PySem L2 PySem.Spec PyProof.Rows
def tRevT (K : PySem.W.Frag) (te : TE) : TE := fun σ H Q => te σ H fun x H1 => ∃ a xs, x = .ref a ∧ SqT K H1 a xs ∧ ∀ p (o : Obj), H1 p = none → o.dict = none → Q (.ref p) (upd H1 p (.frz o (.tup xs.reverse)))
section
variable {X : Cx}
theorem pe_revT {e : Expr} {te : TE} {k : Nat} {p1 p2 p3 pos : Pos} (he : PE X e te) : PE X (.Subscript e (.Slice none none (some (.UnaryOp .USub (.Constant (.int 1) k p1) p2)) p3) pos) (tRevT X.K te) := by
  refine ⟨fun pins s σ H Q I h => ?_⟩
  refine Subscript_ (thn (he.run pins s σ H _ I h) fun v s1 ⟨x, H1, I1, r1, q1⟩ => ?_)
  obtain ⟨a, xs, ex, hx, q⟩ := q1
  subst ex
  cases r1
  have hst : PO X (some (.UnaryOp .USub (.Constant (.int 1) k p1) p2)) (tPart (tUn (rU fun i => .int (-i)) (tC (.int 1)))) := po_some (pe_un un_neg pe_int)
  refine wpAny_Slice (thn (po_none.run pins s1 σ H1 (fun o H2 => o = none ∧ H2 = H1) I1 ⟨rfl, rfl⟩) fun vl s2 ⟨l, H2, I2, pl, el, e2⟩ => ?_)
  subst el e2
  refine thn (po_none.run pins s2 σ H2 (fun o H3 => o = none ∧ H3 = H2) I2 ⟨rfl, rfl⟩) fun vu s3 ⟨u, H3, I3, pu, eu, e3⟩ => ?_
  subst eu e3
  refine thn (hst.run pins s3 σ H3 (fun o H4 => o = some (-1) ∧ H4 = H3) I3 ⟨1, rfl, -1, rfl, rfl, rfl⟩) fun vs s4 ⟨o, H4, I4, ps, eo, e4⟩ => ?_
  subst eo e4
  have I5 : Inv X pins σ H4 { s4 with heap := s4.heap.push { cls := .type "slice", data := .fields #[vl, vu, vs] } } := I4.kept (t' := s4.toks) fun b ob q => Heap.get?_push_of_some _ q
  obtain ⟨its, r, ht, hz⟩ := I5.tuple hx
  have hlen := r.length
  show wpAny (model X.prog X.w) X.A (subscriptTail e (.Slice none none (some (.UnaryOp .USub (.Constant (.int 1) k p1) p2)) p3) (.ref a) (.ref s4.heap.objs.size)) (EP X pins σ Q) X.xe { s4 with heap := s4.heap.push { cls := .type "slice", data := .fields #[vl, vu, vs] } }
  refine tail_any (ops := [.ref a, .ref s4.heap.objs.size]) ht.typeIs (PyProof.Rows.slot_tuple_getitem.lookup) ?_ (by with_unfolding_all rfl)
  refine HT.getItem_tuple_rev ht (Heap.IsSliceOf.new _ vl vu vs) pl pu ps ?_ (by rw [List.size_toArray]; omega)
  refine ⟨.ref _, _, I5.laid (t' := s4.toks) (o := .frz { cls := .type "tuple", data := .seq its.reverse.toArray } (.tup xs.reverse)) (fun b ob q => Heap.get?_push_of_some _ q) (Nat.le_refl _) ?_, rfl, q _ _ (I5.hok.fresh (Nat.le_refl _)) rfl⟩
  exact ⟨Heap.get?_push_size _ rfl, by rw [List.length_reverse]; exact hz, _, r.reverse, IsTup.new _ _⟩
end
def revTG : List D → Option D
  | [.tuple xs] => if xs.length ≤ sizeLine then some (.tuple xs.reverse) else none
  | _ => none
section
variable {X : Cx} {W : WX} {e : Expr} {fa : List S → M S} {pos : Pos}
theorem de_revT {k : Nat} {p1 p2 p3 : Pos} (ha : DE X W e fa) : DE X W (.Subscript e (.Slice none none (some (.UnaryOp .USub (.Constant (.int 1) k p1) p2)) p3) pos) (eCd revTG (aCons fa aNil)) := by
  obtain ⟨t, pr, kk⟩ := ha
  refine ⟨_, pe_revT pr, fun B ca ρ cs Hf σ H Q r h => ?_⟩
  refine kk B ca ρ cs Hf σ H _ r (h.bind.bind.mono fun ca1 Hf1 H1 cs1 s n1 r1 h1 v hv => ?_)
  have h2 : Gs X W B ca1 Hf1 ρ σ (bnd (vwsM [s]) (fun ds => bnd (ofO (revTG ds)) fun d => ret (.d d)) cs1) (fun ca' Hf' H' _ s => ∀ v, SvOk ca' Hf' s v → Q v H') := (h1.ret_ r1)
  obtain ⟨ds, e1, h3⟩ := vwsM_ h2
  obtain ⟨d, e2, h4⟩ := ofOb_ h3
  have lv := vws_ok r1 (SvsOk.cons hv .nil) e1
  match ds, e2, lv with
  | [x], e2, lv =>
    cases x with
    | tuple xs =>
      obtain ⟨l, vs, rfl, q1, q2⟩ := lv.1.tup
      have e2' : (if xs.length ≤ sizeLine then some (PyData.tuple xs.reverse) else none) = some d := e2
      split at e2'
      · rename_i hz
        cases e2'
        refine ⟨l, vs, rfl, .inl q1, fun p o hp ho => ?_⟩
        have g := Gw.new (o := .frz o (.tup vs.reverse)) r1.ext hp
        obtain ⟨r3, n3⟩ := r1.gw g
        exact h4 ca1 _ _ n3 r3 _ (show Dd _ _ _ from .tup ⟨o, upd_same, ho⟩ (dps_ex n3.ex (dds_rev q2)))
      · cases e2'
    | _ => cases e2
  | [], e2, lv => exact absurd e2 (by simp [revTG])
  | _ :: _ :: _, e2, lv => exact absurd e2 (by simp [revTG])
end
end Dn

set_option Elab.async false
set_option linter.all false
set_option maxRecDepth 100000
set_option maxHeartbeats 1000000
namespace Dn
open PySem L2
def eDicE (_ : List S) : M S := ret (.d (.dict []))
section
variable {X : Cx} {W : WX} {pos : Pos}
theorem de_dicE : DE X W (.Dict [] [] pos) eDicE := by
  refine ⟨_, pe_dnewK, fun B ca ρ cs Hf σ H Q r h => ?_⟩
  intro p hp
  have g := Gw.new (o := .dK []) r.ext hp
  obtain ⟨r3, n3⟩ := r.gw g
  have h2 : Gs X W B ca Hf ρ σ (ret (S.d (.dict [])) cs) (fun ca' Hf' H' _ s => ∀ v, SvOk ca' Hf' s v → Q v H') := h
  exact h2 ca _ _ n3 r3 _ (show Dd _ _ _ from .dic upd_same)
end
def boolG : List D → Option D
  | [.int i] => some (.bool (i != 0))
  | [.bool b] => some (.bool b)
  | _ => none
section
variable {X : Cx}
theorem bool_ok : CallR X (.type "bool") (rCd boolG) := by
  intro pins s σ H xs us Q I r h
  obtain ⟨Hf, ds, d, e, ex, hl, q⟩ := h
  unfold boolG at e
  split at e
  · cases e
    obtain ⟨v, rfl, h1⟩ := lvs_one hl
    have := h1.int_; subst this
    exact call_bool1 pins s σ H _ us Q I r (.inl ⟨_, rfl, q _ _ _ (Gw.refl ex) (.bl _)⟩)
  · cases e
    obtain ⟨v, rfl, h1⟩ := lvs_one hl
    have := h1.bl_; subst this
    exact call_bool1 pins s σ H _ us Q I r (.inr ⟨_, rfl, q _ _ _ (Gw.refl ex) (.bl _)⟩)
  · cases e
end
end Dn

set_option Elab.async false
set_option linter.all false
set_option maxRecDepth 100000
set_option maxHeartbeats 1000000
namespace Dn
open PySem L2
section
variable {α β : Type} {cs cs' : Store} {ρ : List S} {i j : Nat}
@[simp] theorem ret_ (a : α) : ret a cs = .ok a cs := rfl
@[simp] theorem stuck_ : (stuck : M α) cs = .no := rfl
@[simp] theorem bnd_ (m : M α) (k : α → M β) : bnd m k cs = match m cs with
  | .ok a cs' => k a cs'
  | .er c cs' => .er c cs'
  | .no => .no := rfl
@[simp] theorem ofO_some (a : α) : ofO (some a) cs = .ok a cs := rfl
@[simp] theorem ofO_none : (ofO (none : Option α)) cs = .no := rfl
@[simp] theorem vw_d (x : D) : vw (.d x) cs = some x := rfl
@[simp] theorem vw_cel : vw (.cel j) cs = match cs[j]? with
    | some (.lst xs) => some (.list xs)
    | _ => none := rfl
@[simp] theorem vwM_d (x : D) : vwM (.d x) cs = .ok x cs := rfl
@[simp] theorem vwM_cel : vwM (.cel j) cs = match cs[j]? with
    | some (.lst xs) => .ok (.list xs) cs
    | _ => .no := by
  show (match vw (.cel j) cs with
    | some d => Res.ok d cs
    | none => .no) = _
  rw [vw_cel]
  cases cs[j]? with
  | none => rfl
  | some o => cases o <;> rfl
@[simp] theorem eV_ : eV i ρ = match ρ[i]? with
  | some (.d x) => ret (.d x)
  | some (.cel j) => ret (.cel j)
  | some (.fn a) => ret (.fn a)
  | _ => stuck := rfl
@[simp] theorem eC_ (d : D) : eC d ρ cs = .ok (.d d) cs := rfl
@[simp] theorem eFn_ (a : Addr) : eFn a ρ cs = .ok (.fn a) cs := rfl
@[simp] theorem op2_ (g : D → D → Option β) (fa fb : List S → M S) : op2 g fa fb ρ cs = bnd (fa ρ) (fun a => bnd (fb ρ) fun b => bnd (vwM a) fun x => bnd (vwM b) fun y => ofO (g x y)) cs := rfl
@[simp] theorem op1_ (g : D → Option β) (fa : List S → M S) : op1 g fa ρ cs = bnd (fa ρ) (fun a => bnd (vwM a) fun x => ofO (g x)) cs := rfl
@[simp] theorem eBin_ (g : D → D → Option D) (fa fb : List S → M S) : eBin g fa fb ρ cs = bnd (op2 g fa fb ρ) (fun d => ret (.d d)) cs := rfl
@[simp] theorem eCmp_ (g : D → D → Option Bool) (fa fb : List S → M S) : eCmp g fa fb ρ cs = bnd (op2 g fa fb ρ) (fun b => ret (.d (.bool b))) cs := rfl
@[simp] theorem eIsN_ (fa : List S → M S) : eIsN fa ρ cs = bnd (op1 isnD fa ρ) (fun b => ret (.d (.bool b))) cs := rfl
@[simp] theorem eIsNN_ (fa : List S → M S) : eIsNN fa ρ cs = bnd (op1 isnD fa ρ) (fun b => ret (.d (.bool (!b)))) cs := rfl
@[simp] theorem tT_ (fa : List S → M S) : tT fa ρ cs = op1 truD fa ρ cs := rfl
@[simp] theorem tNotM_ (f : List S → M Bool) : tNotM f ρ cs = bnd (f ρ) (fun b => ret (!b)) cs := rfl
@[simp] theorem tAndM_ (f g : List S → M Bool) : tAndM f g ρ cs = bnd (f ρ) (fun b => if b = true then g ρ else ret false) cs := rfl
@[simp] theorem tOrM_ (f g : List S → M Bool) : tOrM f g ρ cs = bnd (f ρ) (fun b => if b = true then ret true else g ρ) cs := rfl
@[simp] theorem eAndM_ (f g : List S → M S) : eAndM f g ρ cs = bnd (f ρ) (fun a => bnd (vwM a) fun x => bnd (ofO (truD x)) fun b => if b = true then g ρ else ret a) cs := rfl
@[simp] theorem eOrM_ (f g : List S → M S) : eOrM f g ρ cs = bnd (f ρ) (fun a => bnd (vwM a) fun x => bnd (ofO (truD x)) fun b => if b = true then ret a else g ρ) cs := rfl
@[simp] theorem eNotM_ (f : List S → M S) : eNotM f ρ cs = bnd (op1 truD f ρ) (fun b => ret (.d (.bool (!b)))) cs := rfl
@[simp] theorem eNeg_ (f : List S → M S) : eNeg f ρ cs = bnd (op1 negD f ρ) (fun d => ret (.d d)) cs := rfl
@[simp] theorem eIf_ (t : List S → M Bool) (f g : List S → M S) : eIf t f g ρ cs = bnd (t ρ) (fun b => if b = true then f ρ else g ρ) cs := rfl
@[simp] theorem tChn_ (g g' : D → D → Option Bool) (fa fb fc : List S → M S) : tChn g g' fa fb fc ρ cs = bnd (fa ρ) (fun a => bnd (fb ρ) fun b => bnd (vwM a) fun x => bnd (vwM b) fun y => bnd (ofO (g x y)) fun k => if k = true then bnd (fc ρ) fun c => bnd (vwM b) fun y' => bnd (vwM c) fun z => ofO (g' y' z) else ret false) cs := rfl
@[simp] theorem eChn_ (g g' : D → D → Option Bool) (fa fb fc : List S → M S) : eChn g g' fa fb fc ρ cs = bnd (tChn g g' fa fb fc ρ) (fun b => ret (.d (.bool b))) cs := rfl
@[simp] theorem aNil_ : aNil ρ cs = .ok [] cs := rfl
@[simp] theorem aCons_ (f : List S → M S) (g : List S → M (List S)) : aCons f g ρ cs = bnd (f ρ) (fun a => bnd (g ρ) fun as => ret (a :: as)) cs := rfl
@[simp] theorem asD_nil : asD [] = some [] := rfl
@[simp] theorem asD_d (x : D) (r : List S) : asD (.d x :: r) = (asD r).map (x :: ·) := rfl
@[simp] theorem eTup_ (g : List S → M (List S)) : eTup g ρ cs = bnd (g ρ) (fun as => bnd (ofO (asD as)) fun xs => if xs.length ≤ sizeLine then ret (.d (.tuple xs)) else stuck) cs := rfl
@[simp] theorem eLst_ (g : List S → M (List S)) : eLst g ρ cs = bnd (g ρ) (fun as => bnd (ofO (asD as)) fun xs => if xs.length ≤ sizeLine then ret (.own (.lst xs)) else stuck) cs := rfl
@[simp] theorem frz_d (x : D) : frz (.d x) = ret (.d x) := rfl
@[simp] theorem frz_own (xs : List D) : frz (.own (.lst xs)) = ret (.d (.list xs)) := rfl
@[simp] theorem frz_cel : frz (.cel j) = ret (.cel j) := rfl
@[simp] theorem eFrz_ (f : List S → M Rv) : eFrz f ρ cs = bnd (f ρ) frz cs := rfl
@[simp] theorem sRv_d (x : D) : sRv (.d x) = ret (.d x) := rfl
@[simp] theorem sRv_cel : sRv (.cel j) = ret (.cel j) := rfl
@[simp] theorem eRv_ (f : List S → M S) : eRv f ρ cs = bnd (f ρ) sRv cs := rfl
@[simp] theorem oNone_ : oNone ρ cs = .ok none cs := rfl
@[simp] theorem oSome_ (f : List S → M S) : oSome f ρ cs = bnd (f ρ) (fun a => match a with
  | .d (.int i) => ret (some i)
  | _ => stuck) cs := rfl
@[simp] theorem eSl_ (f : List S → M S) (l h : List S → M (Option Int)) : eSl f l h ρ cs = bnd (f ρ) (fun a => bnd (l ρ) fun lo => bnd (h ρ) fun hi => bnd (vwM a) fun x => bnd (ofO (slD x lo hi)) fun d => ret (.d d)) cs := rfl
@[simp] theorem vws_nil : vws [] cs = some [] := rfl
theorem vws_cons (s : S) (r : List S) : vws (s :: r) cs = match vw s cs, vws r cs with
    | some d, some ds => some (d :: ds)
    | _, _ => none := rfl
@[simp] theorem vws_d (x : D) (r : List S) : vws (.d x :: r) cs = (vws r cs).map (x :: ·) := by
  rw [vws_cons, vw_d]
  cases vws r cs <;> rfl
theorem vws_cel {xs : List D} (r : List S) (h : cs[j]? = some (.lst xs)) : vws (.cel j :: r) cs = (vws r cs).map (.list xs :: ·) := by
  rw [vws_cons, vw_cel, h]
  cases vws r cs <;> rfl
@[simp] theorem vwsM_nil : vwsM [] cs = .ok [] cs := rfl
@[simp] theorem vwsM_d (x : D) (r : List S) : vwsM (.d x :: r) cs = bnd (vwsM r) (fun ds => ret (x :: ds)) cs := by
  unfold vwsM bnd ret
  simp only []
  rw [vws_d]
  cases vws r cs <;> rfl
theorem vwsM_cel {xs : List D} (r : List S) (h : cs[j]? = some (.lst xs)) : vwsM (.cel j :: r) cs = bnd (vwsM r) (fun ds => ret (.list xs :: ds)) cs := by
  unfold vwsM bnd ret
  simp only []
  rw [vws_cel r h]
  cases vws r cs <;> rfl
@[simp] theorem eCd_ (g : List D → Option D) (f : List S → M (List S)) : eCd g f ρ cs = bnd (f ρ) (fun ss => bnd (vwsM ss) fun ds => bnd (ofO (g ds)) fun d => ret (.d d)) cs := rfl
@[simp] theorem eIsa_ (T : String) (fa : List S → M S) : eIsa T fa ρ cs = bnd (op1 (fun d => some (isaD T d)) fa ρ) (fun b => ret (.d (.bool b))) cs := rfl
@[simp] theorem celM_lst {xs : List D} (h : cs[j]? = some (.lst xs)) : celM (.cel j) cs = .ok (j, xs) cs := by
  unfold celM; simp only [h]
@[simp] theorem putM_ (o : OC) : putM j o cs = .ok () (cs.set j o) := rfl
@[simp] theorem fin__ (g : List D → List D → Option (D × List D)) (s : S) (ss : List S) : fin_ g s ss cs = bnd (celM s) (fun p => bnd (ofO (asD ss)) fun ds => bnd (ofO (if p.2.length ≤ sizeLine then g p.2 ds else none)) fun q => bnd (putM p.1 (.lst q.2)) fun _ => ret (.d q.1)) cs := rfl
@[simp] theorem eMt_ (g : List D → List D → Option (D × List D)) (fo : List S → M S) (fa : List S → M (List S)) : eMt g fo fa ρ cs = bnd (fo ρ) (fun s => bnd (celM s) fun _ => bnd (fa ρ) fun ss => fin_ g s ss) cs := rfl
@[simp] theorem eMt0_ (g : List D → List D → Option (D × List D)) (fo : List S → M S) : eMt0 g fo ρ cs = bnd (fo ρ) (fun s => fin_ g s []) cs := rfl
@[simp] theorem appG_ (xs : List D) (d : D) : appG xs [d] = if xs.length < sizeLine then some (.none, xs ++ [d]) else none := rfl
@[simp] theorem extG_ (xs ys : List D) : extG xs [.list ys] = if xs.length + ys.length ≤ sizeLine then some (.none, xs ++ ys) else none := rfl
@[simp] theorem popG_ (xs : List D) (d : D) : popG (xs ++ [d]) [] = some (d, xs) := by
  unfold popG
  simp
@[simp] theorem stp_ (m : M α) (k : α → Store → Out) : stp m k ρ cs = match m cs with
  | .ok a cs' => k a cs'
  | .er c cs' => .er c ρ cs'
  | .no => .no := rfl
@[simp] theorem gNil_ : gNil ρ cs = .nx ρ cs := rfl
@[simp] theorem gSeq_ (g h : G) : gSeq g h ρ cs = match g ρ cs with
  | .nx ρ' cs' => h ρ' cs'
  | o => o := rfl
@[simp] theorem sSet_ (f : List S → M S) : sSet i f ρ cs = stp (f ρ) (fun s cs => .nx (ρ.set i s) cs) ρ cs := rfl
@[simp] theorem sNew_ (f : List S → M Rv) : sNew i f ρ cs = stp (f ρ) (fun r cs => match r with
  | .own o => .nx (ρ.set i (.cel cs.length)) (cs ++ [o])
  | .d x => .nx (ρ.set i (.d x)) cs
  | .cel j => .nx (ρ.set i (.cel j)) cs
  | .pr _ _ => .no
  | .cp _ _ => .no) ρ cs := rfl
@[simp] theorem sRet_ (f : List S → M Rv) : sRet f ρ cs = stp (f ρ) (fun r cs => .rt r cs) ρ cs := rfl
@[simp] theorem sRetN_ : sRetN ρ cs = .rt (.d .none) cs := rfl
@[simp] theorem sExp_ (f : List S → M S) : sExp f ρ cs = stp (f ρ) (fun _ cs => .nx ρ cs) ρ cs := rfl
@[simp] theorem sIf_ (t : List S → M Bool) (g h : G) : sIf t g h ρ cs = stp (t ρ) (fun b cs => if b = true then g ρ cs else h ρ cs) ρ cs := rfl
@[simp] theorem sErr_ (c : Str) : sErr c ρ cs = .er c ρ cs := rfl
@[simp] theorem gPass_ : gPass ρ cs = .nx ρ cs := rfl
@[simp] theorem gBrk_ : gBrk ρ cs = .bk ρ cs := rfl
@[simp] theorem gCon_ : gCon ρ cs = .ct ρ cs := rfl
@[simp] theorem gFor_nil (tg : D → List S → Option (List S)) (body : G) : gFor tg body [] ρ cs = .nx ρ cs := rfl
theorem gFor_cons (tg : D → List S → Option (List S)) (body : G) (x : D) (xs : List D) : gFor tg body (x :: xs) ρ cs = match tg x ρ with
    | none => .no
    | some ρ1 => match body ρ1 cs with
      | .nx ρ' cs' => gFor tg body xs ρ' cs'
      | .ct ρ' cs' => gFor tg body xs ρ' cs'
      | .bk ρ' cs' => .nx ρ' cs'
      | .rt r cs' => .rt r cs'
      | .er c ρ' cs' => .er c ρ' cs'
      | .no => .no := rfl
@[simp] theorem gtN_ (d : D) : gtN i d ρ = some (ρ.set i (.d d)) := rfl
@[simp] theorem sFor_ (tg : D → List S → Option (List S)) (it : List S → M (List D)) (body : G) : sFor tg it body ρ cs = stp (it ρ) (fun xs cs => gFor tg body xs ρ cs) ρ cs := rfl
@[simp] theorem iSeq_ (f : List S → M S) : iSeq f ρ cs = bnd (f ρ) (fun s => match s with
  | .d (.list xs) => ret xs
  | _ => stuck) cs := rfl
@[simp] theorem iTupM_ (f : List S → M S) : iTupM f ρ cs = bnd (f ρ) (fun s => match s with
  | .d (.tuple xs) => ret xs
  | _ => stuck) cs := rfl
@[simp] theorem iRng_ (f : List S → M S) : iRng f ρ cs = bnd (f ρ) (fun s => match s with
  | .d (.int j) => if -(2 ^ 62) ≤ j ∧ j < 2 ^ 62 then ret (rngD 0 j.toNat) else stuck
  | _ => stuck) cs := rfl
theorem gWhile_succ (t : List S → M Bool) (body : G) (n : Nat) : gWhile t body (n + 1) ρ cs = stp (t ρ) (fun b cs => if b = true then (match body ρ cs with
      | .nx ρ' cs' => gWhile t body n ρ' cs'
      | .ct ρ' cs' => gWhile t body n ρ' cs'
      | .bk ρ' cs' => .nx ρ' cs'
      | .rt r cs' => .rt r cs'
      | .er c ρ' cs' => .er c ρ' cs'
      | .no => .no) else .nx ρ cs) ρ cs := rfl
@[simp] theorem sSub_ (fo fi fe : List S → M S) : sSub fo fi fe ρ cs = stp (bnd (fe ρ) fun e => bnd (fo ρ) fun o => bnd (fi ρ) fun i => bnd (celM o) fun p => match e, i with
  | .d x, .d (.int k) => bnd (ofO (ixN p.2.length k)) fun j => putM p.1 (.lst (p.2.set j x))
  | _, _ => stuck) (fun _ cs => .nx ρ cs) ρ cs := rfl
@[simp] theorem runG_ (m : Nat) (g : G) (ss : List S) : runG m g ss cs = fin cs.length (g (ss ++ List.replicate m .no) cs) := rfl
@[simp] theorem pl_lst (xs : List D) : (OC.lst xs).pl = true := rfl
@[simp] theorem pl_dK (xs : List (Key × D)) : (OC.dK xs).pl = true := rfl
@[simp] theorem pl_tk (xs : List Key) : (OC.tk xs).pl = true := rfl
@[simp] theorem okc_0 : okc 0 cs = true := rfl
@[simp] theorem okc_nil (n : Nat) : okc n [] = true := by cases n <;> rfl
@[simp] theorem okc_s (n : Nat) (o : OC) : okc (n + 1) (o :: cs) = (o.pl && okc n cs) := rfl
@[simp] theorem okc_1 (o : OC) : okc 1 (o :: cs) = o.pl := by show (o.pl && true) = o.pl; simp
@[simp] theorem okc_2 (o p : OC) : okc 2 (o :: p :: cs) = (o.pl && p.pl) := by show (o.pl && (p.pl && true)) = _; simp
@[simp] theorem okc_3 (o p q : OC) : okc 3 (o :: p :: q :: cs) = (o.pl && (p.pl && q.pl)) := by show (o.pl && (p.pl && (q.pl && true))) = _; simp
@[simp] theorem fin_nx (n : Nat) : fin n (.nx ρ cs) = if okc n cs = true then .ok (.d .none) (cs.take n) else .no := rfl
@[simp] theorem fin_d (n : Nat) (x : D) : fin n (.rt (.d x) cs) = if okc n cs = true then .ok (.d x) (cs.take n) else .no := rfl
@[simp] theorem fin_own (n : Nat) (o : OC) : fin n (.rt (.own o) cs) = if okc n cs = true then .ok (.own o) (cs.take n) else .no := rfl
@[simp] theorem fin_er (n : Nat) (c : Str) : fin n (.er c ρ cs) = if okc n cs = true then .er c (cs.take n) else .no := rfl
@[simp] theorem fin_cp (n : Nat) (x : D) : fin n (.rt (.cp j x) cs) = if okc n cs = true then (if j < n then .no else match cs[j]? with
    | some (.lst xs) => .ok (.d (.list [.list xs, x])) (cs.take n)
    | _ => .no) else .no := rfl
@[simp] theorem fin_no (n : Nat) : fin n .no = .no := rfl
theorem fin_cel (n : Nat) : fin n (.rt (.cel j) cs) = if okc n cs = true then (if j < n then .ok (.cel j) (cs.take n) else match cs[j]? with
    | some o => if o.pl = true then .ok (.own o) (cs.take n) else .no
    | none => .no) else .no := rfl
@[simp] theorem noCel_nil : noCel [] = true := rfl
@[simp] theorem noCel_d (x : D) (r : List S) : noCel (.d x :: r) = noCel r := rfl
@[simp] theorem noCel_fn (a : Addr) (r : List S) : noCel (.fn a :: r) = noCel r := rfl
@[simp] theorem callP_ (F : List S → M Rv) (ss : List S) : callP F ss cs = if noCel ss = true then (match F ss [] with
  | .ok (.d x) _ => .ok (.d x) cs
  | .ok (.own o) _ => .ok (.own o) cs
  | .ok (.cel _) _ => .no
  | .ok (.pr _ _) _ => .no
  | .ok (.cp _ _) _ => .no
  | .er c _ => .er c cs
  | .no => .no) else .no := rfl
@[simp] theorem callC_ (F : List S → M Rv) (r : List S) : callC F (.cel j :: r) cs = if noCel r = true then (match cs[j]? with
    | some o => if o.pl = true then (match F (.cel 0 :: r) [o] with
      | .ok (.d x) [o'] => if o'.pl = true then .ok (.d x) (cs.set j o') else .no
      | .ok (.own u) [o'] => if o'.pl = true then .ok (.own u) (cs.set j o') else .no
      | .ok (.cel 0) [o'] => if o'.pl = true then .ok (.cel j) (cs.set j o') else .no
      | .er c [o'] => if o'.pl = true then .er c (cs.set j o') else .no
      | _ => .no) else .no
    | none => .no) else .no := rfl
@[simp] theorem eCall_ (F : List S → M Rv) (g : List S → M (List S)) : eCall F g ρ cs = bnd (g ρ) (callP F) cs := rfl
@[simp] theorem eCallC_ (F : List S → M Rv) (g : List S → M (List S)) : eCallC F g ρ cs = bnd (g ρ) (callC F) cs := rfl
@[simp] theorem eCallL_ (a : Addr) (F : List S → M Rv) (g : List S → M (List S)) : eCallL i a F g ρ cs = match ρ[i]? with
  | some (.fn b) => if b = a then bnd (g ρ) (fun ss cs => match callP F ss cs with
    | .er _ _ => .no
    | o => o) cs else .no
  | _ => .no := rfl
@[simp] theorem addD_int (x y : Int) : addD (.int x) (.int y) = some (.int (x + y)) := rfl
@[simp] theorem subD_int (x y : Int) : subD (.int x) (.int y) = some (.int (x - y)) := rfl
@[simp] theorem mulD_int (x y : Int) : mulD (.int x) (.int y) = if x.natAbs.log2 + y.natAbs.log2 < 1000000 then some (.int (x * y)) else none := rfl
@[simp] theorem fdivD_int (x y : Int) : fdivD (.int x) (.int y) = if 0 < y ∧ y.natAbs.log2 < 9000 then some (.int (x / y)) else none := rfl
@[simp] theorem modD_int (x y : Int) : modD (.int x) (.int y) = if 0 < y then some (.int (x % y)) else none := rfl
@[simp] theorem powD_int (x y : Int) : powD (.int x) (.int y) = if 0 ≤ y ∧ y ≤ 1000000 ∧ x.natAbs < 2 ^ 64 then some (.int (x ^ y.toNat)) else none := rfl
@[simp] theorem negD_int (x : Int) : negD (.int x) = some (.int (-x)) := rfl
@[simp] theorem ltD_int (x y : Int) : ltD (.int x) (.int y) = some (decide (x < y)) := rfl
@[simp] theorem leD_int (x y : Int) : leD (.int x) (.int y) = some (decide (x ≤ y)) := rfl
@[simp] theorem gtD_int (x y : Int) : gtD (.int x) (.int y) = some (decide (y < x)) := rfl
@[simp] theorem geD_int (x y : Int) : geD (.int x) (.int y) = some (decide (y ≤ x)) := rfl
@[simp] theorem eqD_int (x y : Int) : eqD (.int x) (.int y) = some (x == y) := by simp [eqD, scalD, PyData.eqv]
@[simp] theorem eqD_str (x y : Str) : eqD (.str x) (.str y) = some (x == y) := by simp [eqD, scalD, PyData.eqv]
@[simp] theorem eqD_bool (x y : Bool) : eqD (.bool x) (.bool y) = some (x == y) := by simp [eqD, scalD, PyData.eqv]
@[simp] theorem eqD_str_int (x : Str) (y : Int) : eqD (.str x) (.int y) = some false := by simp [eqD, scalD, PyData.eqv]
@[simp] theorem eqD_int_str (x : Str) (y : Int) : eqD (.int y) (.str x) = some false := by simp [eqD, scalD, PyData.eqv]
@[simp] theorem neD_int (x y : Int) : neD (.int x) (.int y) = some (!(x == y)) := by simp [neD]
@[simp] theorem neD_str (x y : Str) : neD (.str x) (.str y) = some (!(x == y)) := by simp [neD]
@[simp] theorem isnD_none : isnD .none = some true := rfl
@[simp] theorem isnD_bool (b : Bool) : isnD (.bool b) = some false := rfl
@[simp] theorem isnD_int (b : Int) : isnD (.int b) = some false := rfl
@[simp] theorem isnD_str (b : Str) : isnD (.str b) = some false := rfl
@[simp] theorem isnD_list (b : List D) : isnD (.list b) = some false := rfl
@[simp] theorem isnD_tuple (b : List D) : isnD (.tuple b) = some false := rfl
@[simp] theorem truD_bool (b : Bool) : truD (.bool b) = some b := rfl
@[simp] theorem truD_none : truD .none = some false := rfl
@[simp] theorem truD_list (b : List D) : truD (.list b) = some (!b.isEmpty) := rfl
@[simp] theorem truD_tuple (b : List D) : truD (.tuple b) = some (!b.isEmpty) := rfl
@[simp] theorem lenG_list (b : List D) : lenG [.list b] = some (.int b.length) := rfl
@[simp] theorem lenG_tuple (b : List D) : lenG [.tuple b] = some (.int b.length) := rfl
@[simp] theorem minG_ (x y : Int) : minG [.int x, .int y] = some (.int (if y < x then y else x)) := rfl
@[simp] theorem maxG_ (x y : Int) : maxG [.int x, .int y] = some (.int (if y > x then y else x)) := rfl
@[simp] theorem intG_int (x : Int) : intG [.int x] = some (.int x) := rfl
@[simp] theorem intG_bool (x : Bool) : intG [.bool x] = some (.int (if x then 1 else 0)) := rfl
@[simp] theorem listG_list (x : List D) : listG [.list x] = some (.list x) := rfl
@[simp] theorem listG_tuple (x : List D) : listG [.tuple x] = some (.list x) := rfl
@[simp] theorem tupleG_list (x : List D) : tupleG [.list x] = some (.tuple x) := rfl
@[simp] theorem tupleG_tuple (x : List D) : tupleG [.tuple x] = some (.tuple x) := rfl
@[simp] theorem ixD_list (xs : List D) (k : Int) : ixD (.list xs) (.int k) = atI xs k := rfl
@[simp] theorem ixD_tuple (xs : List D) (k : Int) : ixD (.tuple xs) (.int k) = atI xs k := rfl
@[simp] theorem slD_list (xs : List D) (lo hi : Option Int) : slD (.list xs) lo hi = some (.list (cutD xs lo hi)) := rfl
@[simp] theorem slD_tuple (xs : List D) (lo hi : Option Int) : slD (.tuple xs) lo hi = some (.tuple (cutD xs lo hi)) := rfl
/-- an item at a place -/
theorem atI_of {α : Type} {xs : List α} {k : Int} {n : Nat} {x : α} (hk : k = (n : Int)) (h : xs[n]? = some x) : atI xs k = some x := by
  subst hk; exact atI_nat h
@[simp] theorem atI0 {α : Type} (x : α) (xs : List α) : atI (x :: xs) 0 = some x := atI_of (n := 0) rfl rfl
@[simp] theorem atI1 {α : Type} (x y : α) (xs : List α) : atI (x :: y :: xs) 1 = some y := atI_of (n := 1) rfl rfl
@[simp] theorem atI2 {α : Type} (x y z : α) (xs : List α) : atI (x :: y :: z :: xs) 2 = some z := atI_of (n := 2) rfl rfl
@[simp] theorem atI3 {α : Type} (x y z u : α) (xs : List α) : atI (x :: y :: z :: u :: xs) 3 = some u := atI_of (n := 3) rfl rfl
@[simp] theorem atI4 {α : Type} (x y z u v : α) (xs : List α) : atI (x :: y :: z :: u :: v :: xs) 4 = some v := atI_of (n := 4) rfl rfl
@[simp] theorem atI5 {α : Type} (x y z u v w : α) (xs : List α) : atI (x :: y :: z :: u :: v :: w :: xs) 5 = some w := atI_of (n := 5) rfl rfl
@[simp] theorem atI6 {α : Type} (x y z u v w p : α) (xs : List α) : atI (x :: y :: z :: u :: v :: w :: p :: xs) 6 = some p := atI_of (n := 6) rfl rfl
/-- xs[k:] -/
theorem cutD_from (xs : List D) (k : Nat) : cutD xs (some (k : Int)) none = xs.drop k := by
  unfold cutD
  rw [HT.sIx_nat, HT.sIx_none, List.take_of_length_le (by simp)]
  by_cases h : k ≤ xs.length
  · rw [Nat.min_eq_left h]
  · rw [Nat.min_eq_right (by omega), List.drop_of_length_le (Nat.le_refl _), List.drop_of_length_le (by omega)]
@[simp] theorem cutD1 (xs : List D) : cutD xs (some 1) none = xs.drop 1 := cutD_from xs 1
@[simp] theorem cutD2 (xs : List D) : cutD xs (some 2) none = xs.drop 2 := cutD_from xs 2
@[simp] theorem cutD3 (xs : List D) : cutD xs (some 3) none = xs.drop 3 := cutD_from xs 3
theorem size_ok {n : Nat} (h : n ≤ 16000000) : n ≤ sizeLine := by rw [sizeLine_eq]; omega
theorem size_lt {n : Nat} (h : n < 16000000) : n < sizeLine := by rw [sizeLine_eq]; omega
@[simp] theorem size0 : (0 : Nat) ≤ sizeLine := Nat.zero_le _
@[simp] theorem size1 : (1 : Nat) ≤ sizeLine := size_ok (by omega)
@[simp] theorem size2 : (2 : Nat) ≤ sizeLine := size_ok (by omega)
@[simp] theorem size3 : (3 : Nat) ≤ sizeLine := size_ok (by omega)
@[simp] theorem size4 : (4 : Nat) ≤ sizeLine := size_ok (by omega)
@[simp] theorem size5 : (5 : Nat) ≤ sizeLine := size_ok (by omega)
@[simp] theorem size6 : (6 : Nat) ≤ sizeLine := size_ok (by omega)
@[simp] theorem size7 : (7 : Nat) ≤ sizeLine := size_ok (by omega)
@[simp] theorem size8 : (8 : Nat) ≤ sizeLine := size_ok (by omega)
@[simp] theorem size9 : (9 : Nat) ≤ sizeLine := size_ok (by omega)
@[simp] theorem size10 : (10 : Nat) ≤ sizeLine := size_ok (by omega)
@[simp] theorem size11 : (11 : Nat) ≤ sizeLine := size_ok (by omega)
@[simp] theorem size12 : (12 : Nat) ≤ sizeLine := size_ok (by omega)
@[simp] theorem size13 : (13 : Nat) ≤ sizeLine := size_ok (by omega)
@[simp] theorem size14 : (14 : Nat) ≤ sizeLine := size_ok (by omega)
@[simp] theorem size15 : (15 : Nat) ≤ sizeLine := size_ok (by omega)
@[simp] theorem size16 : (16 : Nat) ≤ sizeLine := size_ok (by omega)
@[simp] theorem size17 : (17 : Nat) ≤ sizeLine := size_ok (by omega)
@[simp] theorem size18 : (18 : Nat) ≤ sizeLine := size_ok (by omega)
@[simp] theorem size19 : (19 : Nat) ≤ sizeLine := size_ok (by omega)
@[simp] theorem size20 : (20 : Nat) ≤ sizeLine := size_ok (by omega)
@[simp] theorem size21 : (21 : Nat) ≤ sizeLine := size_ok (by omega)
@[simp] theorem size22 : (22 : Nat) ≤ sizeLine := size_ok (by omega)
@[simp] theorem size23 : (23 : Nat) ≤ sizeLine := size_ok (by omega)
@[simp] theorem size24 : (24 : Nat) ≤ sizeLine := size_ok (by omega)
@[simp] theorem size25 : (25 : Nat) ≤ sizeLine := size_ok (by omega)
@[simp] theorem size26 : (26 : Nat) ≤ sizeLine := size_ok (by omega)
@[simp] theorem size27 : (27 : Nat) ≤ sizeLine := size_ok (by omega)
@[simp] theorem size28 : (28 : Nat) ≤ sizeLine := size_ok (by omega)
@[simp] theorem size29 : (29 : Nat) ≤ sizeLine := size_ok (by omega)
@[simp] theorem size30 : (30 : Nat) ≤ sizeLine := size_ok (by omega)
@[simp] theorem size31 : (31 : Nat) ≤ sizeLine := size_ok (by omega)
@[simp] theorem size32 : (32 : Nat) ≤ sizeLine := size_ok (by omega)
@[simp] theorem size33 : (33 : Nat) ≤ sizeLine := size_ok (by omega)
@[simp] theorem size34 : (34 : Nat) ≤ sizeLine := size_ok (by omega)
@[simp] theorem size35 : (35 : Nat) ≤ sizeLine := size_ok (by omega)
@[simp] theorem size36 : (36 : Nat) ≤ sizeLine := size_ok (by omega)
@[simp] theorem size37 : (37 : Nat) ≤ sizeLine := size_ok (by omega)
@[simp] theorem size38 : (38 : Nat) ≤ sizeLine := size_ok (by omega)
@[simp] theorem size39 : (39 : Nat) ≤ sizeLine := size_ok (by omega)
@[simp] theorem size40 : (40 : Nat) ≤ sizeLine := size_ok (by omega)
@[simp] theorem sizeLt0 : (0 : Nat) < sizeLine := size_lt (by omega)
@[simp] theorem flatD_none : flatD .none = true := rfl
@[simp] theorem flatD_bool (b : Bool) : flatD (.bool b) = true := rfl
@[simp] theorem flatD_int (b : Int) : flatD (.int b) = true := rfl
@[simp] theorem flatD_str (b : Str) : flatD (.str b) = true := rfl
@[simp] theorem eqv_str (a b : Str) : PyData.eqv (.str a) (.str b) = (a == b) := by simp [PyData.eqv]
@[simp] theorem eqv_int (a b : Int) : PyData.eqv (.int a) (.int b) = (a == b) := by simp [PyData.eqv]
@[simp] theorem eqv_int_str (a : Int) (b : Str) : PyData.eqv (.int a) (.str b) = false := by simp [PyData.eqv]
@[simp] theorem eqv_str_int (a : Int) (b : Str) : PyData.eqv (.str b) (.int a) = false := by simp [PyData.eqv]
theorem inD_tup (x : D) (ys : List D) : inD x (.tuple ys) = if (flatD x && ys.all flatD) = true then some (ys.any fun y => PyData.eqv y x) else none := rfl
theorem inD_lst (x : D) (ys : List D) : inD x (.list ys) = if (flatD x && ys.all flatD || (SeqAt.shaped x && SeqAt.shaped (.list ys))) = true then some (ys.any fun y => PyData.eqv y x) else none := rfl
@[simp] theorem inD_str (x : Str) (ys : List D) (h : ys.all flatD = true) : inD (.str x) (.tuple ys) = some (ys.any fun y => PyData.eqv y (.str x)) := by
  rw [inD_tup, h]; rfl
@[simp] theorem inD_int (x : Int) (ys : List D) (h : ys.all flatD = true) : inD (.int x) (.tuple ys) = some (ys.any fun y => PyData.eqv y (.int x)) := by
  rw [inD_tup, h]; rfl
@[simp] theorem inD_strL (x : Str) (ys : List D) (h : ys.all flatD = true) : inD (.str x) (.list ys) = some (ys.any fun y => PyData.eqv y (.str x)) := by
  rw [inD_lst, h]; rfl
@[simp] theorem inD_intL (x : Int) (ys : List D) (h : ys.all flatD = true) : inD (.int x) (.list ys) = some (ys.any fun y => PyData.eqv y (.int x)) := by
  rw [inD_lst, h]; rfl
@[simp] theorem isa_int_int (x : Int) : isaD "int" (.int x) = true := rfl
@[simp] theorem isa_bool_int (x : Int) : isaD "bool" (.int x) = false := rfl
@[simp] theorem isa_str_int (x : Int) : isaD "str" (.int x) = false := rfl
@[simp] theorem isa_list_int (x : Int) : isaD "list" (.int x) = false := rfl
@[simp] theorem isa_tuple_int (x : Int) : isaD "tuple" (.int x) = false := rfl
@[simp] theorem isa_int_bool (x : Bool) : isaD "int" (.bool x) = true := rfl
@[simp] theorem isa_bool_bool (x : Bool) : isaD "bool" (.bool x) = true := rfl
@[simp] theorem isa_str_bool (x : Bool) : isaD "str" (.bool x) = false := rfl
@[simp] theorem isa_list_bool (x : Bool) : isaD "list" (.bool x) = false := rfl
@[simp] theorem isa_tuple_bool (x : Bool) : isaD "tuple" (.bool x) = false := rfl
@[simp] theorem isa_int_str (x : Str) : isaD "int" (.str x) = false := rfl
@[simp] theorem isa_bool_str (x : Str) : isaD "bool" (.str x) = false := rfl
@[simp] theorem isa_str_str (x : Str) : isaD "str" (.str x) = true := rfl
@[simp] theorem isa_list_str (x : Str) : isaD "list" (.str x) = false := rfl
@[simp] theorem isa_tuple_str (x : Str) : isaD "tuple" (.str x) = false := rfl
@[simp] theorem isa_int_list (x : List D) : isaD "int" (.list x) = false := rfl
@[simp] theorem isa_bool_list (x : List D) : isaD "bool" (.list x) = false := rfl
@[simp] theorem isa_str_list (x : List D) : isaD "str" (.list x) = false := rfl
@[simp] theorem isa_list_list (x : List D) : isaD "list" (.list x) = true := rfl
@[simp] theorem isa_tuple_list (x : List D) : isaD "tuple" (.list x) = false := rfl
@[simp] theorem isa_int_tuple (x : List D) : isaD "int" (.tuple x) = false := rfl
@[simp] theorem isa_bool_tuple (x : List D) : isaD "bool" (.tuple x) = false := rfl
@[simp] theorem isa_str_tuple (x : List D) : isaD "str" (.tuple x) = false := rfl
@[simp] theorem isa_list_tuple (x : List D) : isaD "list" (.tuple x) = false := rfl
@[simp] theorem isa_tuple_tuple (x : List D) : isaD "tuple" (.tuple x) = true := rfl
@[simp] theorem isa_none (t : String) (h : (t == "NoneType") = false) : isaD t .none = false := h
@[simp] theorem strOk_lit (s : String) : PyData.strOk (Str.ofString s) = true := by
  rw [Str.ofString_eq_toList]
  simp only [PyData.strOk, List.all_toArray, List.all_eq_true, List.mem_map, decide_eq_true_eq]
  rintro n ⟨c, _, rfl⟩
  have h := c.valid
  unfold UInt32.isValidChar Nat.isValidChar at h
  show c.val.toNat < _
  omega
@[simp] theorem shaped_str (x : Str) : SeqAt.shaped (.str x) = PyData.strOk x := by simp [SeqAt.shaped, PyData.canLay0, PyData.depth]
@[simp] theorem shaped_int (x : Int) : SeqAt.shaped (.int x) = true := by simp [SeqAt.shaped, PyData.canLay0, PyData.depth]
@[simp] theorem shaped_bool (x : Bool) : SeqAt.shaped (.bool x) = true := by simp [SeqAt.shaped, PyData.canLay0, PyData.depth]
@[simp] theorem shaped_none : SeqAt.shaped .none = true := by simp [SeqAt.shaped, PyData.canLay0, PyData.depth]
theorem eqD_sh {a b : D} (ha : SeqAt.shaped a = true) (hb : SeqAt.shaped b = true) : eqD a b = some (PyData.eqv a b) := by
  unfold eqD; rw [ha, hb]; simp
@[simp] theorem eqD_tuple_str (x : List D) (y : Str) (ha : SeqAt.shaped (.tuple x) = true) (hb : PyData.strOk y = true) : eqD (.tuple x) (.str y) = some false := by
  rw [eqD_sh ha (by rw [shaped_str]; exact hb)]; simp [PyData.eqv]
@[simp] theorem eqD_list_str (x : List D) (y : Str) (ha : SeqAt.shaped (.list x) = true) (hb : PyData.strOk y = true) : eqD (.list x) (.str y) = some false := by
  rw [eqD_sh ha (by rw [shaped_str]; exact hb)]; simp [PyData.eqv]
@[simp] theorem eqD_none_int (x : Int) : eqD .none (.int x) = some false := by simp [eqD, scalD, PyData.eqv]
@[simp] theorem eqD_int_none (x : Int) : eqD (.int x) .none = some false := by simp [eqD, scalD, PyData.eqv]
@[simp] theorem eqD_none_str (x : Str) : eqD .none (.str x) = some false := by simp [eqD, scalD, PyData.eqv]
@[simp] theorem eqD_str_none (x : Str) : eqD (.str x) .none = some false := by simp [eqD, scalD, PyData.eqv]
@[simp] theorem eqD_none_none : eqD .none .none = some true := by simp [eqD, scalD, PyData.eqv]
theorem log2_lt {x : Int} {k : Nat} (hk : 0 < k) (h : x.natAbs < 2 ^ k) : x.natAbs.log2 < k := PySem.Flt.log2_lt_of hk h
@[simp] theorem noEr_ (m : M α) : noEr m cs = match m cs with
  | .ok a cs' => .ok a cs'
  | _ => .no := by
  unfold noEr
  cases m cs <;> rfl
@[simp] theorem eLc_ (it : List S → M (List D)) (tg : D → List S → Option (List S)) (t : List S → M Bool) (f : List S → M S) (vs : List Nat) : eLc it tg t f vs ρ cs = bnd (it ρ) (fun xs => lcL tg t f (wipeS ρ vs) xs []) cs := rfl
@[simp] theorem lcL_nil (tg : D → List S → Option (List S)) (t : List S → M Bool) (f : List S → M S) (acc : List D) : lcL tg t f ρ [] acc cs = .ok (.own (.lst acc)) cs := rfl
theorem lcL_cons (tg : D → List S → Option (List S)) (t : List S → M Bool) (f : List S → M S) (x : D) (xs acc : List D) : lcL tg t f ρ (x :: xs) acc cs = (match tg x ρ with
    | none => stuck
    | some ρ1 => bnd (noEr (t ρ1)) fun b => if b = true then bnd (noEr (f ρ1)) fun y => (match y with
        | .d d => if acc.length < sizeLine then lcL tg t f ρ xs (acc ++ [d]) else stuck
        | _ => stuck)
      else lcL tg t f ρ xs acc) cs := rfl
@[simp] theorem tYesM_ : tYesM ρ cs = .ok true cs := rfl
@[simp] theorem wipeS_nil : wipeS ρ [] = ρ := rfl
@[simp] theorem wipeS_cons (v : Nat) (vs : List Nat) : wipeS ρ (v :: vs) = (wipeS ρ vs).set v .no := rfl
@[simp] theorem iAnyM_ (f : List S → M S) : iAnyM f ρ cs = bnd (f ρ) (fun s => match s with
  | .d x => ofO (itD x)
  | _ => stuck) cs := rfl
@[simp] theorem itD_list (xs : List D) : itD (.list xs) = some xs := rfl
@[simp] theorem itD_tuple (xs : List D) : itD (.tuple xs) = some xs := rfl
@[simp] theorem itD_str (x : Str) : itD (.str x) = some (x.cps.toList.map chD) := rfl
@[simp] theorem clr_nx (i : Nat) : clr i (.nx ρ cs) = .nx (ρ.set i .no) cs := rfl
@[simp] theorem clr_rt (i : Nat) (r : Rv) : clr i (.rt r cs) = .rt r cs := rfl
@[simp] theorem mulE_int (x y : Int) : mulE (.int x) (.int y) = mulD (.int x) (.int y) := rfl
@[simp] theorem mulE_tuple (xs : List D) (k : Int) : mulE (.tuple xs) (.int k) = if -1000000000 ≤ k ∧ k ≤ 1000000000 ∧ xs.length * k.toNat ≤ 1000000 then some (.tuple (List.replicate k.toNat xs).flatten) else none := rfl
@[simp] theorem mulE_list (xs : List D) (k : Int) : mulE (.list xs) (.int k) = if -1000000000 ≤ k ∧ k ≤ 1000000000 ∧ xs.length * k.toNat ≤ sizeLine then some (.list (List.replicate k.toNat xs).flatten) else none := rfl
@[simp] theorem addD_tuple (xs ys : List D) : addD (.tuple xs) (.tuple ys) = if xs.length + ys.length ≤ sizeLine then some (.tuple (xs ++ ys)) else none := rfl
@[simp] theorem addD_list (xs ys : List D) : addD (.list xs) (.list ys) = if xs.length + ys.length ≤ sizeLine then some (.list (xs ++ ys)) else none := rfl
@[simp] theorem addD_str (x y : Str) : addD (.str x) (.str y) = if x.length + y.length ≤ sizeLine then some (.str (x ++ y)) else none := rfl
@[simp] theorem lenSetG_list (xs : List D) : lenSetG [.list xs] = match kysD xs with
    | some ks => if ks.length < 4000 then some (.int (fmK ks).length) else none
    | none => none := rfl
@[simp] theorem strG_str (x : Str) : strG [.str x] = some (.str x) := rfl
@[simp] theorem strG_int (i : Int) : strG [.int i] = if i.natAbs.log2 < 1920 then some (.str (toString i)) else none := rfl
@[simp] theorem inD_ch (c : Nat) (z : Str) : inD (chD c) (.str z) = some (decide (c ∈ z.cps.toList)) := rfl
theorem ninD_eq (x y : D) : ninD x y = (inD x y).map (!·) := rfl
@[simp] theorem ninD_of {x y : D} {b : Bool} (h : inD x y = some b) : ninD x y = some (!b) := by rw [ninD_eq, h]; rfl
@[simp] theorem vwsM_c0 (xs : List D) (r : List S) (c : Store) : vwsM (.cel 0 :: r) (.lst xs :: c) = bnd (vwsM r) (fun ds => ret (.list xs :: ds)) (.lst xs :: c) := vwsM_cel r rfl
@[simp] theorem vwsM_c1 (o : OC) (xs : List D) (r : List S) (c : Store) : vwsM (.cel 1 :: r) (o :: .lst xs :: c) = bnd (vwsM r) (fun ds => ret (.list xs :: ds)) (o :: .lst xs :: c) := vwsM_cel r rfl
@[simp] theorem vwsM_c2 (o o2 : OC) (xs : List D) (r : List S) (c : Store) : vwsM (.cel 2 :: r) (o :: o2 :: .lst xs :: c) = bnd (vwsM r) (fun ds => ret (.list xs :: ds)) (o :: o2 :: .lst xs :: c) := vwsM_cel r rfl
end
end Dn

set_option Elab.async false
set_option linter.all false
set_option maxRecDepth 100000
set_option maxHeartbeats 1000000
namespace Dn
open PySem L2
section
variable {cs : Store} {ρ : List S} {i j : Nat}
@[simp] theorem sTgt_ (g : D → List S → Option (List S)) (f : List S → M S) : sTgt g f ρ cs = stp (f ρ) (fun s cs => match s with
  | .d x => match g x ρ with
    | some ρ' => .nx ρ' cs
    | none => .no
  | _ => .no) ρ cs := rfl
@[simp] theorem sPar_ (fa fb : List S → M S) : sPar i j fa fb ρ cs = stp (bnd (fa ρ) fun a => bnd (fb ρ) fun b => ret (a, b)) (fun p cs => .nx ((ρ.set i p.1).set j p.2) cs) ρ cs := rfl
@[simp] theorem eDic0_ : eDic0 ρ cs = .ok (.own (.dK [])) cs := rfl
@[simp] theorem dicM_c0 (kvs : List (Key × D)) (c : Store) : dicM (.cel 0) (.dK kvs :: c) = .ok (0, kvs) (.dK kvs :: c) := rfl
@[simp] theorem dicM_c1 (o : OC) (kvs : List (Key × D)) (c : Store) : dicM (.cel 1) (o :: .dK kvs :: c) = .ok (1, kvs) (o :: .dK kvs :: c) := rfl
@[simp] theorem keyM_str (x : Str) : keyM (.d (.str x)) = ret (Sum.inr x) := rfl
@[simp] theorem keyM_int (x : Int) : keyM (.d (.int x)) = ret (Sum.inl x) := rfl
@[simp] theorem eIxK_ (fo fi : List S → M S) : eIxK fo fi ρ cs = bnd (fo ρ) (fun o => bnd (fi ρ) fun i => bnd (dicM o) fun p => bnd (keyM i) fun k => bnd (ofO (dvK p.2 k)) fun d => ret (.d d)) cs := rfl
@[simp] theorem eGet2_ (fo fi fx : List S → M S) : eGet2 fo fi fx ρ cs = bnd (fo ρ) (fun o => bnd (dicM o) fun _ => bnd (fi ρ) fun i => bnd (fx ρ) fun x => bnd (dicM o) fun p => bnd (keyM i) fun k => match x with
  | .d z => ret (.d ((dvK p.2 k).getD z))
  | _ => stuck) cs := rfl
@[simp] theorem eGet1_ (fo fi : List S → M S) : eGet1 fo fi ρ cs = bnd (fo ρ) (fun o => bnd (dicM o) fun _ => bnd (fi ρ) fun i => bnd (dicM o) fun p => bnd (keyM i) fun k => ret (.d ((dvK p.2 k).getD .none))) cs := rfl
@[simp] theorem sSubK_ (fo fi fe : List S → M S) : sSubK fo fi fe ρ cs = stp (bnd (fe ρ) fun e => bnd (fo ρ) fun o => bnd (fi ρ) fun i => bnd (dicM o) fun p => bnd (keyM i) fun k => match e with
  | .d x => if p.2.length < sizeLine then putM p.1 (.dK (dpK p.2 k x)) else stuck
  | _ => stuck) (fun _ cs => .nx ρ cs) ρ cs := rfl
@[simp] theorem eLenK_ (fo : List S → M S) : eLenK fo ρ cs = bnd (fo ρ) (fun o => bnd (dicM o) fun p => ret (.d (.int p.2.length))) cs := rfl
@[simp] theorem eSortK_ (fo : List S → M S) : eSortK fo ρ cs = bnd (fo ρ) (fun o => bnd (dicM o) fun p => match sortKT (p.2.map (·.1)) with
  | some ks => if ks.length < 64 then ret (.d (.list ((sortT ks).map .str))) else stuck
  | none => stuck) cs := rfl
@[simp] theorem gtT_ (gs : List D → List S → Option (List S)) (xs : List D) : gtT gs (.tuple xs) ρ = gs xs ρ := rfl
@[simp] theorem gtsNil_ : gtsNil [] ρ = some ρ := rfl
@[simp] theorem gtsCons_ (g : D → List S → Option (List S)) (gs : List D → List S → Option (List S)) (x : D) (r : List D) : gtsCons g gs (x :: r) ρ = (g x ρ).bind (gs r) := rfl
end
end Dn

set_option Elab.async false
set_option linter.all false
set_option maxRecDepth 100000
set_option maxHeartbeats 1000000
namespace Dn
open PySem L2
section
variable {ρ : List S} {cs : Store}
@[simp] theorem eCallV_ (F : List S → M Rv) (g : List S → M (List S)) : eCallV F g ρ cs = bnd (g ρ) (callV F) cs := rfl
@[simp] theorem seeS_nil : seeS cs [] = some [] := rfl
@[simp] theorem seeS_d (x : D) (r : List S) : seeS cs (.d x :: r) = (seeS cs r).map (.d x :: ·) := rfl
@[simp] theorem seeS_cel (j : Nat) (r : List S) : seeS cs (.cel j :: r) = (match cs[j]? with
    | some (.lst xs) => (seeS cs r).map (.d (.list xs) :: ·)
    | _ => none) := rfl
@[simp] theorem nlD_int (i : Int) : nlD (.int i) = true := rfl
@[simp] theorem nlD_str (i : Str) : nlD (.str i) = true := rfl
@[simp] theorem nlD_bool (i : Bool) : nlD (.bool i) = true := rfl
@[simp] theorem nlD_none : nlD .none = true := rfl
@[simp] theorem nlD_tuple (xs : List D) : nlD (.tuple xs) = nlDs xs := rfl
@[simp] theorem nlDs_nil : nlDs [] = true := rfl
@[simp] theorem nlDs_cons (x : D) (xs : List D) : nlDs (x :: xs) = (nlD x && nlDs xs) := rfl
end
end Dn

set_option Elab.async false
set_option linter.all false
set_option maxRecDepth 100000
set_option maxHeartbeats 1000000
namespace Dn
open PySem L2
section
variable {α : Type} {F : List S → M Rv} {ga : List S → M (List S)} {ρ ρ' ss : List S} {cs cs' cs1 cs2 : Store} {i : Nat} {v : S} {fe fa fb : List S → M S} {fo : List S → M Rv} {xs : List D} {x : D} {o : OC} {g h : G} {t : List S → M Bool} {out : Out} {tg : D → List S → Option (List S)} {it : List S → M (List D)} {vs : List Nat}
theorem eCall_own (hg : ga ρ cs = .ok ss cs') (hn : noCel ss = true) (hF : F ss [] = .ok (.own o) cs1) : eCall F ga ρ cs = .ok (.own o) cs' := by
  rw [eCall_, bnd_ok hg, callP_, if_pos hn, hF]
theorem eCall_d (hg : ga ρ cs = .ok ss cs') (hn : noCel ss = true) (hF : F ss [] = .ok (.d x) cs1) : eCall F ga ρ cs = .ok (.d x) cs' := by
  rw [eCall_, bnd_ok hg, callP_, if_pos hn, hF]
theorem frz_l (hF : fo ρ cs = .ok (.own (.lst xs)) cs') : eFrz fo ρ cs = .ok (.d (.list xs)) cs' := by
  rw [eFrz_, bnd_ok hF]; rfl
theorem frz_x (hF : fo ρ cs = .ok (.d x) cs') : eFrz fo ρ cs = .ok (.d x) cs' := by
  rw [eFrz_, bnd_ok hF]; rfl
theorem iRng_n {n : Nat} (hF : fe ρ cs = .ok (.d (.int (n : Int))) cs') (hn : n ≤ 1000000) : iRng fe ρ cs = .ok (rngD 0 n) cs' := by
  have a : -(2 ^ 62) ≤ (n : Int) ∧ (n : Int) < 2 ^ 62 := ⟨by omega, by omega⟩
  rw [iRng_]
  unfold bnd
  rw [hF]
  show (if -(2 ^ 62) ≤ (n : Int) ∧ (n : Int) < 2 ^ 62 then ret (rngD 0 (n : Int).toNat) else stuck) cs' = _
  rw [if_pos a, Int.toNat_natCast]
  rfl
theorem eLc_of {t : List S → M Bool} {r : Res Rv} (hF : it ρ cs = .ok xs cs') (h2 : lcL tg t fe (wipeS ρ vs) xs [] cs' = r) : eLc it tg t fe vs ρ cs = r := by
  rw [eLc_, bnd_ok hF]; exact h2
theorem sSet_to (hF : fe ρ cs = .ok v cs') (e : ρ.set i v = ρ') : sSet i fe ρ cs = .nx ρ' cs' := by
  rw [sSet_, stp_, hF, ← e]
theorem sNew_lst (hF : fo ρ cs = .ok (.own o) cs') (e : ρ.set i (.cel cs'.length) = ρ') : sNew i fo ρ cs = .nx ρ' (cs' ++ [o]) := by
  rw [sNew_, stp_, hF, ← e]
theorem sNew_d (hF : fo ρ cs = .ok (.d x) cs') (e : ρ.set i (.d x) = ρ') : sNew i fo ρ cs = .nx ρ' cs' := by
  rw [sNew_, stp_, hF, ← e]
theorem sRet_of {r : Rv} (hF : fo ρ cs = .ok r cs') : sRet fo ρ cs = .rt r cs' := by rw [sRet_, stp_, hF]
theorem sExp_of (hF : fe ρ cs = .ok v cs') : sExp fe ρ cs = .nx ρ cs' := by rw [sExp_, stp_, hF]
theorem seq_nx (h1 : g ρ cs = .nx ρ' cs') (h2 : h ρ' cs' = out) : gSeq g h ρ cs = out := by
  rw [gSeq_, h1]; exact h2
theorem seq_rt {r : Rv} (h1 : g ρ cs = .rt r cs') : gSeq g h ρ cs = .rt r cs' := by rw [gSeq_, h1]
theorem seq_er {c : Str} (h1 : g ρ cs = .er c ρ' cs') : gSeq g h ρ cs = .er c ρ' cs' := by rw [gSeq_, h1]
theorem if_no (h1 : t ρ cs = .ok false cs') (h2 : h ρ cs' = out) : sIf t g h ρ cs = out := by
  rw [sIf_, stp_, h1]; simpa using h2
theorem if_yes (h1 : t ρ cs = .ok true cs') (h2 : g ρ cs' = out) : sIf t g h ρ cs = out := by
  rw [sIf_, stp_, h1]; simpa using h2
theorem for_of (h1 : it ρ cs = .ok xs cs1) (h2 : gFor tg g xs ρ cs1 = out) : sFor tg it g ρ cs = out := by
  rw [sFor_, stp_, h1]; exact h2
theorem for_nil : gFor tg g [] ρ cs = .nx ρ cs := rfl
theorem for_step {ρ2 : List S} (h1 : tg x ρ = some ρ') (h2 : g ρ' cs = .nx ρ2 cs2 ∨ g ρ' cs = .ct ρ2 cs2) (h3 : gFor tg g xs ρ2 cs2 = out) : gFor tg g (x :: xs) ρ cs = out := by
  rw [gFor_cons, h1]
  rcases h2 with h2 | h2 <;> simp only [h2] <;> exact h3
theorem for_rt {r : Rv} (h1 : tg x ρ = some ρ') (h2 : g ρ' cs = .rt r cs') : gFor tg g (x :: xs) ρ cs = .rt r cs' := by
  rw [gFor_cons, h1]; simp only [h2]
theorem tOr_l {t' : List S → M Bool} (h1 : t ρ cs = .ok true cs') : tOrM t t' ρ cs = .ok true cs' := by
  rw [tOrM_, bnd_ok h1]; rfl
theorem tOr_r {t' : List S → M Bool} {r : Res Bool} (h1 : t ρ cs = .ok false cs') (h2 : t' ρ cs' = r) : tOrM t t' ρ cs = r := by
  rw [tOrM_, bnd_ok h1]; exact h2
theorem tAnd_l {t' : List S → M Bool} (h1 : t ρ cs = .ok false cs') : tAndM t t' ρ cs = .ok false cs' := by
  rw [tAndM_, bnd_ok h1]; rfl
theorem tAnd_r {t' : List S → M Bool} {r : Res Bool} (h1 : t ρ cs = .ok true cs') (h2 : t' ρ cs' = r) : tAndM t t' ρ cs = r := by
  rw [tAndM_, bnd_ok h1]; exact h2
theorem tNot_of {b : Bool} (h1 : t ρ cs = .ok b cs') : tNotM t ρ cs = .ok (!b) cs' := by
  rw [tNotM_, bnd_ok h1]; rfl
theorem eAnd_l (h1 : fa ρ cs = .ok (.d (.bool false)) cs') : eAndM fa fb ρ cs = .ok (.d (.bool false)) cs' := by
  rw [eAndM_, bnd_ok h1]; rfl
theorem eAnd_r {r : Res S} (h1 : fa ρ cs = .ok (.d (.bool true)) cs') (h2 : fb ρ cs' = r) : eAndM fa fb ρ cs = r := by
  rw [eAndM_, bnd_ok h1]; exact h2
theorem eRv_d (h1 : fe ρ cs = .ok (.d x) cs') : eRv fe ρ cs = .ok (.d x) cs' := by rw [eRv_, bnd_ok h1]; rfl
theorem eRv_c {j : Nat} (h1 : fe ρ cs = .ok (.cel j) cs') : eRv fe ρ cs = .ok (.cel j) cs' := by rw [eRv_, bnd_ok h1]; rfl
theorem run_of {m : Nat} {out : Out} {r : Res Rv} (h1 : g (ss ++ List.replicate m .no) cs = out) (h2 : fin cs.length out = r) : runG m g ss cs = r := by
  rw [runG_, h1, h2]
theorem aCons_of {ss' : List S} (h1 : fe ρ cs = .ok v cs1) (h2 : ga ρ cs1 = .ok ss' cs') : aCons fe ga ρ cs = .ok (v :: ss') cs' := by
  rw [aCons_, bnd_ok h1, bnd_ok h2]; rfl
/-- a comprehension over things of a kind, whose parts leave the store as it is -/
theorem lc_map {t : List S → M Bool} (e : α → D) (p : α → Bool) (g : α → D) : ∀ (xs : List α) (acc : List D), (∀ x ∈ xs, ∃ ρ', tg (e x) ρ = some ρ' ∧ t ρ' cs = .ok (p x) cs ∧ (p x = true → fe ρ' cs = .ok (.d (g x)) cs)) → acc.length + xs.length < 16000000 →
    lcL tg t fe ρ (xs.map e) acc cs = .ok (.own (.lst (acc ++ (xs.filter p).map g))) cs
  | [], acc, _, _ => by simp
  | x :: xs, acc, h, hl => by
    obtain ⟨ρ', h1, h2, h3⟩ := h x (by simp)
    rw [List.length_cons] at hl
    rw [List.map_cons, lcL_cons, h1]
    cases hp : p x with
    | false =>
      simp only [bnd_, noEr_, h2, hp, Bool.false_eq_true, if_false, List.filter_cons]
      exact lc_map e p g xs acc (fun y hy => h y (by simp [hy])) (by omega)
    | true =>
      have ih := lc_map e p g xs (acc ++ [g x]) (fun y hy => h y (by simp [hy])) (by simp; omega)
      have z : acc.length < sizeLine := size_lt (by omega)
      simp only [bnd_, noEr_, h2, h3 hp, hp, if_true, List.filter_cons, if_pos z, ih]
      simp
theorem filt_all {α : Type} (xs : List α) : xs.filter (fun _ => true) = xs := List.filter_eq_self.2 fun _ _ => rfl
theorem lc_all {t : List S → M Bool} (e : α → D) (g : α → D) (xs : List α) (h : ∀ x ∈ xs, ∃ ρ', tg (e x) ρ = some ρ' ∧ t ρ' cs = .ok true cs ∧ fe ρ' cs = .ok (.d (g x)) cs) (hl : xs.length < 16000000) :
    lcL tg t fe ρ (xs.map e) [] cs = .ok (.own (.lst (xs.map g))) cs := by
  have := lc_map (tg := tg) (t := t) (fe := fe) (ρ := ρ) (cs := cs) e (fun _ => true) g xs [] (fun x hx => let ⟨ρ', a, b, c⟩ := h x hx; ⟨ρ', a, b, fun _ => c⟩) (by simpa using hl)
  rw [filt_all, List.nil_append] at this
  exact this
end
def upTo (i : Nat) : Nat → List D
  | 0 => []
  | n + 1 => .int (i : Nat) :: upTo (i + 1) n
theorem range_up : ∀ (n i : Nat), ((List.range' i n).map fun (k : Nat) => PyData.int (k : Nat)) = upTo i n
  | 0, _ => rfl
  | n + 1, i => by rw [List.range'_succ, List.map_cons, range_up n (i + 1)]; rfl
theorem rng_upTo (n : Nat) : rngD 0 n = upTo 0 n := by
  rw [← range_up n 0, List.range'_eq_map_range]
  unfold rngD
  rw [List.map_map]
  refine List.map_congr_left fun k _ => ?_
  show PyData.int (0 + (k : Int)) = PyData.int ((0 + k : Nat) : Int)
  rw [Int.zero_add, Nat.zero_add]
section
variable {ρ : List S} {cs : Store}
@[simp] theorem eSortKy_ (F : List S → M Rv) (fe : List S → M S) : eSortKy F fe ρ cs = bnd (fe ρ) (fun s => bnd (vwM s) fun d => bnd (ofO (sortKyG F d)) fun xs => ret (.own (.lst xs))) cs := rfl
@[simp] theorem atI7 {α : Type} (a b c d e f g h : α) (r : List α) : atI (a :: b :: c :: d :: e :: f :: g :: h :: r) 7 = some h := atI_of (n := 7) rfl rfl
@[simp] theorem atI8 {α : Type} (a b c d e f g h i : α) (r : List α) : atI (a :: b :: c :: d :: e :: f :: g :: h :: i :: r) 8 = some i := atI_of (n := 8) rfl rfl
@[simp] theorem atI9 {α : Type} (a b c d e f g h i j : α) (r : List α) : atI (a :: b :: c :: d :: e :: f :: g :: h :: i :: j :: r) 9 = some j := atI_of (n := 9) rfl rfl
@[simp] theorem popAtG_ (xs : List D) (i : Int) : popAtG xs [.int i] = if 0 ≤ i ∧ i < 2 ^ 62 then (xs[i.toNat]?).map fun d => (d, xs.eraseIdx i.toNat) else none := rfl
@[simp] theorem insG_ (xs : List D) (i : Int) (d : D) : insG xs [.int i, d] = if 0 ≤ i ∧ i < 2 ^ 62 ∧ xs.length < sizeLine then some (.none, xs.take i.toNat ++ [d] ++ xs.drop i.toNat) else none := rfl
end
end Dn

set_option Elab.async false
set_option linter.all false
set_option maxRecDepth 100000
set_option maxHeartbeats 1000000
namespace Dn
open PySem L2
section
variable {F : List S → M Rv} {ga : List S → M (List S)} {ρ ss : List S} {cs cs1 cs' : Store} {r : Rv}
theorem eCallA_of (hg : ga ρ cs = .ok ss cs1) (hF : F ss cs1 = .ok r cs') (hl : cs'.length = cs1.length) : eCallA F ga ρ cs = .ok r cs' := by
  unfold eCallA
  rw [bnd_ok hg]
  unfold callA
  rw [hF]
  exact if_pos hl
end
section
variable {it : List S → M (Nat × List D)} {fe : List S → M S} {tg : D → List S → Option (List S)} {t : List S → M Bool} {vs : List Nat} {ρ ρ' ρ2 : List S} {cs cs1 cs2 cs' : Store} {j : Nat} {x : D} {xs ys : List D} {g : G} {out : Out}
theorem iCel_of (h : fe ρ cs = .ok (.cel j) cs') (e : cs'[j]? = some (.lst xs)) : iCel fe ρ cs = .ok (j, xs) cs' := by
  unfold iCel
  rw [bnd_ok h]
  exact celM_lst e
theorem eLcC_of {r : Res Rv} (hF : it ρ cs = .ok (j, xs) cs') (h2 : lcLC j xs tg t fe (wipeS ρ vs) xs [] cs' = r) : eLcC it tg t fe vs ρ cs = r := by
  unfold eLcC
  rw [bnd_ok hF]
  exact h2
theorem lcLC_nil {acc : List D} (e : cs[j]? = some (.lst ys)) : lcLC j ys tg t fe ρ [] acc cs = .ok (.own (.lst acc)) cs := by
  unfold lcLC
  exact (stays_yes e).trans rfl
theorem lcLC_cons {acc : List D} (e : cs[j]? = some (.lst ys)) : lcLC j ys tg t fe ρ (x :: xs) acc cs = (match tg x ρ with
    | none => stuck
    | some ρ1 => bnd (noEr (t ρ1)) fun b => if b = true then bnd (noEr (fe ρ1)) fun y => (match y with
        | .d d => if acc.length < sizeLine then lcLC j ys tg t fe ρ xs (acc ++ [d]) else stuck
        | _ => stuck)
      else lcLC j ys tg t fe ρ xs acc) cs := by
  conv => lhs; unfold lcLC
  exact stays_yes e
theorem forC_nil (e : cs[j]? = some (.lst ys)) : gForC j ys tg g [] ρ cs = .nx ρ cs := by
  unfold gForC
  rw [if_pos e]
theorem forC_step (e : cs[j]? = some (.lst ys)) (h1 : tg x ρ = some ρ') (h2 : g ρ' cs = .nx ρ2 cs2 ∨ g ρ' cs = .ct ρ2 cs2) (h3 : gForC j ys tg g xs ρ2 cs2 = out) : gForC j ys tg g (x :: xs) ρ cs = out := by
  unfold gForC
  rw [if_pos e, h1]
  rcases h2 with h2 | h2 <;> simp only [h2, h3]
theorem forC_rt {r : Rv} (e : cs[j]? = some (.lst ys)) (h1 : tg x ρ = some ρ') (h2 : g ρ' cs = .rt r cs') : gForC j ys tg g (x :: xs) ρ cs = .rt r cs' := by
  unfold gForC
  rw [if_pos e, h1]
  simp only [h2]
end
section
variable {ρ : List S} {cs : Store}
@[simp] theorem eOwnL_ (fe : List S → M S) : eOwnL fe ρ cs = bnd (fe ρ) (fun s => bnd (vwM s) fun d => bnd (ofO (listO d)) fun xs => ret (.own (.lst xs))) cs := rfl
@[simp] theorem listO_list (xs : List D) : listO (.list xs) = some xs := rfl
@[simp] theorem listO_tuple (xs : List D) : listO (.tuple xs) = some xs := rfl
@[simp] theorem cInK_ (neg : Bool) (fi fo : List S → M S) : cInK neg fi fo ρ cs = bnd (fi ρ) (fun i => bnd (fo ρ) fun o => bnd (dicM o) fun p => bnd (keyM i) fun k => ret (if neg = true then !(dvK p.2 k).isSome else (dvK p.2 k).isSome)) cs := rfl
end
end Dn

set_option Elab.async false
set_option linter.all false
set_option maxRecDepth 100000
set_option maxHeartbeats 1000000
namespace Dn
open PySem L2
section
variable {ρ ρ' : List S} {cs cs' : Store} {i j : Nat}
@[simp] theorem eDic1_ (fk fv : List S → M S) : eDic1 fk fv ρ cs = bnd (fk ρ) (fun k => bnd (fv ρ) fun v => bnd (keyM k) fun y => match v with
  | .d x => ret (.own (.dK [(y, x)]))
  | _ => stuck) cs := rfl
@[simp] theorem eLst2_ (fa : List S → M S) (fo : List S → M Rv) : eLst2 fa fo ρ cs = bnd (fa ρ) (fun a => bnd (fo ρ) fun r => match a, r with
  | .d x, .own (.lst xs) => ret (.pr x xs)
  | _, _ => stuck) cs := rfl
@[simp] theorem gTry0_ (g : G) : gTry0 g ρ cs = match g ρ cs with
  | .er _ _ _ => .no
  | o => o := rfl
@[simp] theorem eSortKI_ (fo : List S → M S) : eSortKI fo ρ cs = bnd (fo ρ) (fun o => bnd (dicM o) fun p => match sortKI (p.2.map (·.1)) with
  | some ks => if ks.length < 64 then ret (.d (.list ((PySem.W.sortI ks).map .int))) else stuck
  | none => stuck) cs := rfl
@[simp] theorem eStrL2_ (fa fb : List S → M S) : eStrL2 fa fb ρ cs = bnd (fa ρ) (fun a => bnd (fb ρ) fun b => bnd (vwM a) fun x => bnd (vwM b) fun y => bnd (ofO (strLG [.list [x, y]])) fun d => ret (.d d)) cs := rfl
@[simp] theorem eOwnR_ (fa : List S → M S) : eOwnR fa ρ cs = bnd (fa ρ) (fun s => bnd (vwM s) fun d => match d with
  | .list xs => if xs.length ≤ sizeLine then ret (.own (.lst xs.reverse)) else stuck
  | _ => stuck) cs := rfl
@[simp] theorem fin_pr (n : Nat) (x : D) (xs : List D) : fin n (.rt (.pr x xs) cs) = if okc n cs = true then .ok (.pr x xs) (cs.take n) else .no := rfl
end
end Dn

set_option Elab.async false
set_option linter.all false
set_option maxRecDepth 100000
set_option maxHeartbeats 1000000
namespace Dn
open PySem L2
section
variable {ρ ρ' : List S} {cs cs' : Store} {i j : Nat}
@[simp] theorem eDicC_ : eDicC ρ cs = .ok (.own (.dC [])) cs := rfl
@[simp] theorem eDicU_ : eDicU ρ cs = .ok (.own (.dU [])) cs := rfl
@[simp] theorem kyD_int (x : Int) : kyD (.int x) = some (.inl x) := rfl
@[simp] theorem kyD_str (x : Str) : kyD (.str x) = some (.inr x) := rfl
@[simp] theorem kysM_nil : kysM [] = some [] := rfl
@[simp] theorem kysM_cons (x : D) (r : List D) : kysM (x :: r) = (match kyD x, kysM r with
    | some k, some ks => some (k :: ks)
    | _, _ => none) := rfl
@[simp] theorem eTk_ (g : List S → M (List S)) : eTk g ρ cs = bnd (g ρ) (fun as => bnd (ofO (asD as)) fun xs => bnd (ofO (kysM xs)) fun ks => if ks.length ≤ sizeLine then ret (.own (.tk ks)) else stuck) cs := rfl
@[simp] theorem eIfO_ (t : List S → M Bool) (f g : List S → M Rv) : eIfO t f g ρ cs = bnd (t ρ) (fun b => if b = true then f ρ else g ρ) cs := rfl
theorem eCp_of {fa fb : List S → M S} {x : D} {cs1 cs2 : Store} (h1 : fa ρ cs = .ok (.cel j) cs1) (h2 : fb ρ cs1 = .ok (.d x) cs2) : eCp fa fb ρ cs = .ok (.cp j x) cs2 := by
  unfold eCp; rw [bnd_ok h1, bnd_ok h2]; rfl
@[simp] theorem gtL_list (gs : List D → List S → Option (List S)) (xs : List D) : gtL gs (.list xs) ρ = gs xs ρ := rfl
end
end Dn

set_option Elab.async false
set_option linter.all false
set_option maxRecDepth 100000
set_option maxHeartbeats 1000000
namespace Dn
open PySem L2
section
variable {α β : Type} {F : List S → M Rv} {ga g0 : List S → M (List S)} {ρ ρ' ss : List S} {cs cs' cs1 cs2 cs3 : Store} {i j k : Nat} {a b v s : S} {fe fa fb fc fi : List S → M S} {fo : List S → M Rv} {xs ys ds : List D} {x y z w : D} {o : OC} {g h : G} {t t' : List S → M Bool} {out : Out}
theorem q_v (h : ρ[i]? = some (.d x)) : eV i ρ cs = .ok (.d x) cs := by simp [h]
theorem q_vc (h : ρ[i]? = some (.cel j)) : eV i ρ cs = .ok (.cel j) cs := by simp [h]
theorem q_vf {f : Addr} (h : ρ[i]? = some (.fn f)) : eV i ρ cs = .ok (.fn f) cs := by simp [h]
theorem w_d : vw (.d x) cs = some x := rfl
theorem w_c (h : cs[j]? = some (.lst xs)) : vw (.cel j) cs = some (.list xs) := by unfold vw; simp only [h]
theorem w_m (h : vw s cs = some x) : vwM s cs = .ok x cs := by unfold vwM; rw [h]
theorem q_op2 {g : D → D → Option β} {z : β} (h1 : fa ρ cs = .ok a cs1) (h2 : fb ρ cs1 = .ok b cs2) (va : vw a cs2 = some x) (vb : vw b cs2 = some y) (hg : g x y = some z) : op2 g fa fb ρ cs = .ok z cs2 := by
  rw [op2_, bnd_ok h1, bnd_ok h2, bnd_ok (w_m va), bnd_ok (w_m vb), hg]; rfl
theorem q_op1 {g : D → Option β} {z : β} (h1 : fa ρ cs = .ok a cs1) (va : vw a cs1 = some x) (hg : g x = some z) : op1 g fa ρ cs = .ok z cs1 := by
  rw [op1_, bnd_ok h1, bnd_ok (w_m va), hg]; rfl
theorem q_bin {g : D → D → Option D} (h1 : fa ρ cs = .ok a cs1) (h2 : fb ρ cs1 = .ok b cs2) (va : vw a cs2 = some x) (vb : vw b cs2 = some y) (hg : g x y = some z) : eBin g fa fb ρ cs = .ok (.d z) cs2 := by
  rw [eBin_, bnd_ok (q_op2 h1 h2 va vb hg)]; rfl
theorem q_cmp {g : D → D → Option Bool} {z : Bool} (h1 : fa ρ cs = .ok a cs1) (h2 : fb ρ cs1 = .ok b cs2) (va : vw a cs2 = some x) (vb : vw b cs2 = some y) (hg : g x y = some z) : eCmp g fa fb ρ cs = .ok (.d (.bool z)) cs2 := by
  rw [eCmp_, bnd_ok (q_op2 h1 h2 va vb hg)]; rfl
theorem q_isn {z : Bool} (h1 : fa ρ cs = .ok a cs1) (va : vw a cs1 = some x) (hg : isnD x = some z) : eIsN fa ρ cs = .ok (.d (.bool z)) cs1 := by
  rw [eIsN_, bnd_ok (q_op1 h1 va hg)]; rfl
theorem q_isnn {z : Bool} (h1 : fa ρ cs = .ok a cs1) (va : vw a cs1 = some x) (hg : isnD x = some z) : eIsNN fa ρ cs = .ok (.d (.bool (!z))) cs1 := by
  rw [eIsNN_, bnd_ok (q_op1 h1 va hg)]; rfl
theorem q_tT {z : Bool} (h1 : fa ρ cs = .ok a cs1) (va : vw a cs1 = some x) (hg : truD x = some z) : tT fa ρ cs = .ok z cs1 := by
  rw [tT_]; exact q_op1 h1 va hg
theorem q_eNot {z : Bool} (h1 : fa ρ cs = .ok a cs1) (va : vw a cs1 = some x) (hg : truD x = some z) : eNotM fa ρ cs = .ok (.d (.bool (!z))) cs1 := by
  rw [eNotM_, bnd_ok (q_op1 h1 va hg)]; rfl
theorem q_neg (h1 : fa ρ cs = .ok a cs1) (va : vw a cs1 = some x) (hg : negD x = some z) : eNeg fa ρ cs = .ok (.d z) cs1 := by
  rw [eNeg_, bnd_ok (q_op1 h1 va hg)]; rfl
theorem q_not {z : Bool} (h1 : t ρ cs = .ok z cs1) : tNotM t ρ cs = .ok (!z) cs1 := tNot_of h1
theorem q_and {z u : Bool} (h1 : t ρ cs = .ok z cs1) (h2 : t' ρ cs1 = .ok u cs1) : tAndM t t' ρ cs = .ok (z && u) cs1 := by
  cases z with
  | true => exact tAnd_r h1 h2
  | false => exact tAnd_l h1
theorem q_or {z u : Bool} (h1 : t ρ cs = .ok z cs1) (h2 : t' ρ cs1 = .ok u cs1) : tOrM t t' ρ cs = .ok (z || u) cs1 := by
  cases z with
  | true => exact tOr_l h1
  | false => exact tOr_r h1 h2
theorem q_cast {z u : α} {m : M α} (h1 : m cs = .ok z cs1) (e : z = u) : m cs = .ok u cs1 := e ▸ h1
theorem q_if1 {r : Res S} (h1 : t ρ cs = .ok true cs1) (h2 : fa ρ cs1 = r) : eIf t fa fb ρ cs = r := by
  unfold eIf; rw [bnd_ok h1]; exact h2
theorem q_if0 {r : Res S} (h1 : t ρ cs = .ok false cs1) (h2 : fb ρ cs1 = r) : eIf t fa fb ρ cs = r := by
  unfold eIf; rw [bnd_ok h1]; exact h2
theorem q_eand {z u : Bool} (h1 : fa ρ cs = .ok (.d (.bool z)) cs1) (h2 : fb ρ cs1 = .ok (.d (.bool u)) cs1) : eAndM fa fb ρ cs = .ok (.d (.bool (z && u))) cs1 := by
  cases z with
  | true => exact eAnd_r h1 h2
  | false => exact eAnd_l h1
theorem q_eor {z u : Bool} (h1 : fa ρ cs = .ok (.d (.bool z)) cs1) (h2 : fb ρ cs1 = .ok (.d (.bool u)) cs1) : eOrM fa fb ρ cs = .ok (.d (.bool (z || u))) cs1 := by
  rw [eOrM_, bnd_ok h1]
  cases z with
  | true => rfl
  | false => exact h2
theorem q_chn {g g' : D → D → Option Bool} {p q : Bool} (h1 : fa ρ cs = .ok a cs1) (h2 : fb ρ cs1 = .ok b cs1) (h3 : fc ρ cs1 = .ok s cs1) (va : vw a cs1 = some x) (vb : vw b cs1 = some y) (vc : vw s cs1 = some z) (hg : g x y = some p) (hg' : g' y z = some q) : tChn g g' fa fb fc ρ cs = .ok (p && q) cs1 := by
  rw [tChn_, bnd_ok h1, bnd_ok h2, bnd_ok (w_m va), bnd_ok (w_m vb), hg, bnd_ok (show ofO (some p) cs1 = .ok p cs1 from rfl)]
  cases p with
  | false => rfl
  | true =>
    rw [if_pos rfl, bnd_ok h3, bnd_ok (w_m vb), bnd_ok (w_m vc), hg']
    rfl
theorem q_echn {g g' : D → D → Option Bool} {p q : Bool} (h1 : fa ρ cs = .ok a cs1) (h2 : fb ρ cs1 = .ok b cs1) (h3 : fc ρ cs1 = .ok s cs1) (va : vw a cs1 = some x) (vb : vw b cs1 = some y) (vc : vw s cs1 = some z) (hg : g x y = some p) (hg' : g' y z = some q) : eChn g g' fa fb fc ρ cs = .ok (.d (.bool (p && q))) cs1 := by
  rw [eChn_, bnd_ok (q_chn h1 h2 h3 va vb vc hg hg')]; rfl
theorem q_nil : aNil ρ cs = .ok [] cs := rfl
theorem q_cons {ss : List S} (h1 : fe ρ cs = .ok v cs1) (h2 : ga ρ cs1 = .ok ss cs') : aCons fe ga ρ cs = .ok (v :: ss) cs' := aCons_of h1 h2
theorem a_d {r : List S} (h : asD r = some xs) : asD (.d x :: r) = some (x :: xs) := by rw [asD_d, h]; rfl
theorem q_tup (h1 : ga ρ cs = .ok ss cs') (h2 : asD ss = some xs) (hl : xs.length < 1000) : eTup ga ρ cs = .ok (.d (.tuple xs)) cs' := by
  rw [eTup_, bnd_ok h1, bnd_ok (show ofO (asD ss) cs' = .ok xs cs' by rw [h2]; rfl), if_pos (size_ok (by omega))]; rfl
theorem q_lst (h1 : ga ρ cs = .ok ss cs') (h2 : asD ss = some xs) (hl : xs.length < 1000) : eLst ga ρ cs = .ok (.own (.lst xs)) cs' := by
  rw [eLst_, bnd_ok h1, bnd_ok (show ofO (asD ss) cs' = .ok xs cs' by rw [h2]; rfl), if_pos (size_ok (by omega))]
  rfl
theorem q_fl (hF : fo ρ cs = .ok (.own (.lst xs)) cs') : eFrz fo ρ cs = .ok (.d (.list xs)) cs' := frz_l hF
theorem q_fd (hF : fo ρ cs = .ok (.d x) cs') : eFrz fo ρ cs = .ok (.d x) cs' := frz_x hF
theorem q_fc (hF : fo ρ cs = .ok (.cel j) cs') : eFrz fo ρ cs = .ok (.cel j) cs' := by
  rw [eFrz_, bnd_ok hF]; rfl
theorem q_rd (h1 : fe ρ cs = .ok (.d x) cs') : eRv fe ρ cs = .ok (.d x) cs' := eRv_d h1
theorem q_rc (h1 : fe ρ cs = .ok (.cel j) cs') : eRv fe ρ cs = .ok (.cel j) cs' := eRv_c h1
theorem ws_nil : vws [] cs = some [] := rfl
theorem ws_cons {r : List S} (h1 : vw s cs = some x) (h2 : vws r cs = some xs) : vws (s :: r) cs = some (x :: xs) := by
  rw [vws_cons, h1, h2]
theorem q_cd {g : List D → Option D} (h : ga ρ cs = .ok ss cs1) (hv : vws ss cs1 = some ds) (hg : g ds = some z) : eCd g ga ρ cs = .ok (.d z) cs1 := by
  rw [eCd_, bnd_ok h, bnd_ok (show vwsM ss cs1 = .ok ds cs1 by unfold vwsM; rw [hv]), hg]; rfl
theorem q_isa {T : String} {z : Bool} (h1 : fa ρ cs = .ok a cs1) (va : vw a cs1 = some x) (hg : isaD T x = z) : eIsa T fa ρ cs = .ok (.d (.bool z)) cs1 := by
  rw [eIsa_, bnd_ok (q_op1 (z := z) h1 va (by rw [hg]))]; rfl
theorem q_on : oNone ρ cs = .ok none cs := rfl
theorem q_os {n : Int} (h : fe ρ cs = .ok (.d (.int n)) cs1) : oSome fe ρ cs = .ok (some n) cs1 := by
  rw [oSome_, bnd_ok h]; rfl
theorem q_sl {l r : List S → M (Option Int)} {lo hi : Option Int} (h1 : fe ρ cs = .ok a cs1) (h2 : l ρ cs1 = .ok lo cs1) (h3 : r ρ cs1 = .ok hi cs1) (va : vw a cs1 = some x) (hg : slD x lo hi = some z) : eSl fe l r ρ cs = .ok (.d z) cs1 := by
  rw [eSl_, bnd_ok h1, bnd_ok h2, bnd_ok h3, bnd_ok (w_m va), hg]; rfl
theorem q_call_d {c : Store} (hg : ga ρ cs = .ok ss cs') (hn : noCel ss = true) (hF : F ss [] = .ok (.d x) c) : eCall F ga ρ cs = .ok (.d x) cs' := eCall_d hg hn hF
theorem q_call_o {c : Store} (hg : ga ρ cs = .ok ss cs') (hn : noCel ss = true) (hF : F ss [] = .ok (.own o) c) : eCall F ga ρ cs = .ok (.own o) cs' := eCall_own hg hn hF
theorem q_callC {r : Res Rv} (hg : ga ρ cs = .ok ss cs1) (h : callC F ss cs1 = r) : eCallC F ga ρ cs = r := by
  unfold eCallC
  rw [bnd_ok hg]
  exact h
theorem q_callV_o {tt : List S} {c : Store} (hg : ga ρ cs = .ok ss cs1) (h1 : seeS cs1 ss = some tt) (h2 : F tt [] = .ok (.own (.lst xs)) c) (h3 : nlDs xs = true) : eCallV F ga ρ cs = .ok (.own (.lst xs)) cs1 := by
  unfold eCallV
  rw [bnd_ok hg]
  unfold callV
  simp only [h1, h2, h3, if_true]
theorem q_callV_d {tt : List S} {c : Store} (hg : ga ρ cs = .ok ss cs1) (h1 : seeS cs1 ss = some tt) (h2 : F tt [] = .ok (.d x) c) (h3 : nlD x = true) : eCallV F ga ρ cs = .ok (.d x) cs1 := by
  unfold eCallV
  rw [bnd_ok hg]
  unfold callV
  simp only [h1, h2, h3, if_true]
theorem se_d {r tt : List S} (h : seeS cs r = some tt) : seeS cs (.d x :: r) = some (.d x :: tt) := by rw [seeS_d, h]; rfl
theorem se_c {r tt : List S} (hc : cs[j]? = some (.lst xs)) (h : seeS cs r = some tt) : seeS cs (.cel j :: r) = some (.d (.list xs) :: tt) := by rw [seeS_cel, hc]; simp only [h]; rfl
/-- iterators -/
theorem q_any {xs : List D} (h : fe ρ cs = .ok (.d x) cs1) (hx : itD x = some xs) : iAnyM fe ρ cs = .ok xs cs1 := by
  rw [iAnyM_, bnd_ok h]
  dsimp only
  rw [hx]; rfl
theorem q_rng {n : Nat} (h : fe ρ cs = .ok (.d (.int (n : Int))) cs1) (hn : n ≤ 1000000) : iRng fe ρ cs = .ok (upTo 0 n) cs1 := by
  rw [← rng_upTo]; exact iRng_n h hn
theorem q_rngI {n : Int} (h : fe ρ cs = .ok (.d (.int n)) cs1) (h0 : 0 ≤ n) (hn : n ≤ 1000000) : iRng fe ρ cs = .ok (upTo 0 n.toNat) cs1 := by
  refine q_rng (n := n.toNat) ?_ (by omega)
  rw [h, Int.toNat_of_nonneg h0]
theorem rl1 : iRng (eC (.int (1))) ρ cs = .ok (upTo 0 1) cs := q_rng (n := 1) rfl (by omega)
theorem rl2 : iRng (eC (.int (2))) ρ cs = .ok (upTo 0 2) cs := q_rng (n := 2) rfl (by omega)
theorem rl3 : iRng (eC (.int (3))) ρ cs = .ok (upTo 0 3) cs := q_rng (n := 3) rfl (by omega)
theorem rl4 : iRng (eC (.int (4))) ρ cs = .ok (upTo 0 4) cs := q_rng (n := 4) rfl (by omega)
theorem rl5 : iRng (eC (.int (5))) ρ cs = .ok (upTo 0 5) cs := q_rng (n := 5) rfl (by omega)
theorem rl6 : iRng (eC (.int (6))) ρ cs = .ok (upTo 0 6) cs := q_rng (n := 6) rfl (by omega)
theorem rl7 : iRng (eC (.int (7))) ρ cs = .ok (upTo 0 7) cs := q_rng (n := 7) rfl (by omega)
theorem rl8 : iRng (eC (.int (8))) ρ cs = .ok (upTo 0 8) cs := q_rng (n := 8) rfl (by omega)
theorem rl9 : iRng (eC (.int (9))) ρ cs = .ok (upTo 0 9) cs := q_rng (n := 9) rfl (by omega)
theorem rl10 : iRng (eC (.int (10))) ρ cs = .ok (upTo 0 10) cs := q_rng (n := 10) rfl (by omega)
theorem rl12 : iRng (eC (.int (12))) ρ cs = .ok (upTo 0 12) cs := q_rng (n := 12) rfl (by omega)
theorem rl20 : iRng (eC (.int (20))) ρ cs = .ok (upTo 0 20) cs := q_rng (n := 20) rfl (by omega)
theorem rl40 : iRng (eC (.int (40))) ρ cs = .ok (upTo 0 40) cs := q_rng (n := 40) rfl (by omega)
theorem rl60 : iRng (eC (.int (60))) ρ cs = .ok (upTo 0 60) cs := q_rng (n := 60) rfl (by omega)
/-- statements -/
theorem q_seq (h1 : g ρ cs = .nx ρ' cs') (h2 : h ρ' cs' = out) : gSeq g h ρ cs = out := seq_nx h1 h2
theorem q_set (hF : fe ρ cs = .ok v cs') (e : ρ.set i v = ρ') : sSet i fe ρ cs = .nx ρ' cs' := sSet_to hF e
theorem q_newl (hF : fo ρ cs = .ok (.own o) cs') (e : ρ.set i (.cel cs'.length) = ρ') (e2 : cs' ++ [o] = cs2) : sNew i fo ρ cs = .nx ρ' cs2 := by rw [← e2]; exact sNew_lst hF e
theorem q_newd (hF : fo ρ cs = .ok (.d x) cs') (e : ρ.set i (.d x) = ρ') : sNew i fo ρ cs = .nx ρ' cs' := sNew_d hF e
theorem q_ret {r : Rv} (hF : fo ρ cs = .ok r cs') : sRet fo ρ cs = .rt r cs' := sRet_of hF
theorem q_exp (hF : fe ρ cs = .ok v cs') : sExp fe ρ cs = .nx ρ cs' := sExp_of hF
theorem q_tgt {gt : D → List S → Option (List S)} (hF : fe ρ cs = .ok (.d x) cs') (e : gt x ρ = some ρ') : sTgt gt fe ρ cs = .nx ρ' cs' := by
  rw [sTgt_, stp_, hF]
  simp only [e]
theorem q_par (h1 : fa ρ cs = .ok a cs1) (h2 : fb ρ cs1 = .ok b cs2) (e : (ρ.set i a).set j b = ρ') : sPar i j fa fb ρ cs = .nx ρ' cs2 := by
  rw [sPar_, stp_, bnd_ok h1, bnd_ok h2, ← e]; rfl
theorem q_app (ho : eV i ρ cs = .ok (.cel j) cs) (he : fe ρ cs = .ok (.d x) cs1) (h0 : cs[j]? = some (.lst xs)) (hc : cs1[j]? = some (.lst ys)) (hl : ys.length < 1000000) (e : cs1.set j (.lst (ys ++ [x])) = cs2) : sExp (eMt appG (eV i) (aCons fe aNil)) ρ cs = .nx ρ cs2 := by
  have c0 : celM (.cel j) cs = .ok (j, xs) cs := by unfold celM; simp only [h0]
  have c : celM (.cel j) cs1 = .ok (j, ys) cs1 := by unfold celM; simp only [hc]
  have l1 : ys.length < sizeLine := size_lt (by omega)
  have l2 : ys.length ≤ sizeLine := size_ok (by omega)
  refine sExp_of (v := .d .none) ?_
  rw [eMt_, bnd_ok ho, bnd_ok c0, bnd_ok (aCons_of (ga := aNil) he rfl), fin__, bnd_ok c, bnd_ok (show ofO (asD [S.d x]) cs1 = .ok [x] cs1 from rfl), if_pos l2, appG_, if_pos l1, ← e]
  rfl
theorem q_ifs1 (h1 : t ρ cs = .ok true cs') (h2 : g ρ cs' = out) : sIf t g h ρ cs = out := if_yes h1 h2
theorem q_ifs0 (h1 : t ρ cs = .ok false cs') (h2 : h ρ cs' = out) : sIf t g h ρ cs = out := if_no h1 h2
theorem q_for {tg : D → List S → Option (List S)} {it : List S → M (List D)} (h1 : it ρ cs = .ok xs cs1) (h2 : gFor tg g xs ρ cs1 = out) : sFor tg it g ρ cs = out := for_of h1 h2
theorem seq_ct (h1 : g ρ cs = .ct ρ' cs') : gSeq g h ρ cs = .ct ρ' cs' := by rw [gSeq_, h1]
theorem seq_bk (h1 : g ρ cs = .bk ρ' cs') : gSeq g h ρ cs = .bk ρ' cs' := by rw [gSeq_, h1]
theorem q_fin {ρ2 : List S} (h : g ρ cs = .nx ρ' cs') (e1 : ρ' = ρ2) (e2 : cs' = cs2) : g ρ cs = .nx ρ2 cs2 := by rw [h, e1, e2]
theorem q_finr {r r2 : Rv} (h : g ρ cs = .rt r cs') (e1 : r = r2) (e2 : cs' = cs2) : g ρ cs = .rt r2 cs2 := by rw [h, e1, e2]
theorem q_val {α : Type} {m : M α} {a b : α} (h : m cs = .ok a cs') (e1 : a = b) (e2 : cs' = cs2) : m cs = .ok b cs2 := by rw [h, e1, e2]
theorem q_run {m : Nat} {n : Nat} {r r2 : Rv} (hs : ss ++ List.replicate m .no = ρ) (h : g ρ cs = .rt r cs1) (hn : cs.length = n) (hf : fin n (.rt r cs1) = .ok r2 cs2) : runG m g ss cs = .ok r2 cs2 := by
  rw [runG_, hs, h, hn]; exact hf
theorem q_runx {m : Nat} {n : Nat} {r2 : Rv} (hs : ss ++ List.replicate m .no = ρ) (h : g ρ cs = .nx ρ' cs1) (hn : cs.length = n) (hf : fin n (.nx ρ' cs1) = .ok r2 cs2) : runG m g ss cs = .ok r2 cs2 := by
  rw [runG_, hs, h, hn]; exact hf
/-- loops by an invariant -/
theorem for_inv {tg : D → List S → Option (List S)} (e : α → D) (I : List α → List S → Store → Prop) : ∀ (xs pre : List α) (ρ : List S) (cs : Store), I pre ρ cs → (∀ p x ρ cs, (∃ q, pre ++ xs = p ++ x :: q) → I p ρ cs → ∃ ρ1 ρ2 cs2, tg (e x) ρ = some ρ1 ∧ (g ρ1 cs = .nx ρ2 cs2 ∨ g ρ1 cs = .ct ρ2 cs2) ∧ I (p ++ [x]) ρ2 cs2) → ∃ ρ2 cs2, gFor tg g (xs.map e) ρ cs = .nx ρ2 cs2 ∧ I (pre ++ xs) ρ2 cs2
  | [], pre, ρ, cs, h, _ => ⟨ρ, cs, rfl, by rwa [List.append_nil]⟩
  | x :: xs, pre, ρ, cs, h, st => by
    obtain ⟨ρ1, ρ2, cs2, h1, h2, h3⟩ := st pre x ρ cs ⟨xs, rfl⟩ h
    obtain ⟨ρ3, cs3, h4, h5⟩ := for_inv e I xs (pre ++ [x]) ρ2 cs2 h3 (fun p y ρ cs hp hi => st p y ρ cs (by rw [List.append_assoc] at hp; exact hp) hi)
    refine ⟨ρ3, cs3, for_step h1 h2 h4, ?_⟩
    rw [List.append_assoc] at h5
    exact h5
/-- .. over 0 .. n - 1 -/
theorem rng_inv {tg : D → List S → Option (List S)} (I : Nat → List S → Store → Prop) : ∀ (n m : Nat) (ρ : List S) (cs : Store), I m ρ cs → (∀ p ρ cs, m ≤ p → p < m + n → I p ρ cs → ∃ ρ1 ρ2 cs2, tg (.int (p : Nat)) ρ = some ρ1 ∧ (g ρ1 cs = .nx ρ2 cs2 ∨ g ρ1 cs = .ct ρ2 cs2) ∧ I (p + 1) ρ2 cs2) → ∃ ρ2 cs2, gFor tg g (upTo m n) ρ cs = .nx ρ2 cs2 ∧ I (m + n) ρ2 cs2
  | 0, m, ρ, cs, h, _ => ⟨ρ, cs, rfl, h⟩
  | n + 1, m, ρ, cs, h, st => by
    obtain ⟨ρ1, ρ2, cs2, h1, h2, h3⟩ := st m ρ cs (Nat.le_refl _) (by omega) h
    obtain ⟨ρ3, cs3, h4, h5⟩ := rng_inv I n (m + 1) ρ2 cs2 h3 (fun p ρ cs hp hq hi => st p ρ cs (by omega) (by omega) hi)
    refine ⟨ρ3, cs3, for_step h1 h2 h4, ?_⟩
    rwa [show m + (n + 1) = m + 1 + n by omega]
/-- .. that may end with a result: f tells it, or nothing -/
theorem for_ret {tg : D → List S → Option (List S)} (e : α → D) (f : α → Option Rv) (I : List S → Store → Prop) : ∀ (xs : List α) (ρ : List S) (cs : Store), I ρ cs → (∀ x ∈ xs, ∀ ρ cs, I ρ cs → ∃ ρ1 cs2, tg (e x) ρ = some ρ1 ∧ match f x with
      | some r => g ρ1 cs = .rt r cs2 ∧ ∃ ρ, I ρ cs2
      | none => ∃ ρ2, (g ρ1 cs = .nx ρ2 cs2 ∨ g ρ1 cs = .ct ρ2 cs2) ∧ I ρ2 cs2) → ∃ cs2, (match xs.findSome? f with
      | some r => gFor tg g (xs.map e) ρ cs = .rt r cs2 ∧ ∃ ρ, I ρ cs2
      | none => ∃ ρ2, gFor tg g (xs.map e) ρ cs = .nx ρ2 cs2 ∧ I ρ2 cs2)
  | [], ρ, cs, h, _ => ⟨cs, ρ, rfl, h⟩
  | x :: xs, ρ, cs, h, st => by
    obtain ⟨ρ1, cs2, h1, h2⟩ := st x List.mem_cons_self ρ cs h
    rw [List.findSome?_cons]
    cases ef : f x with
    | some r =>
      rw [ef] at h2
      exact ⟨cs2, for_rt h1 h2.1, h2.2⟩
    | none =>
      rw [ef] at h2
      obtain ⟨ρ2, h3, h4⟩ := h2
      obtain ⟨cs3, h5⟩ := for_ret e f I xs ρ2 cs2 h4 fun y hy => st y (List.mem_cons_of_mem _ hy)
      refine ⟨cs3, ?_⟩
      dsimp only
      revert h5
      cases xs.findSome? f with
      | some r => exact fun ⟨h5, h6⟩ => ⟨for_step h1 h3 h5, h6⟩
      | none => exact fun ⟨ρ3, h5, h6⟩ => ⟨ρ3, for_step h1 h3 h5, h6⟩
/-- comprehensions that may change cells -/
theorem lc_inv {tg : D → List S → Option (List S)} (e : α → D) (I : List α → List D → Store → Prop) : ∀ (xs pre : List α) (acc : List D) (cs : Store), I pre acc cs → acc.length + xs.length < 16000000 → (∀ p x acc cs, (∃ q, pre ++ xs = p ++ x :: q) → I p acc cs → ∃ ρ1 cs1, tg (e x) ρ = some ρ1 ∧ ((t ρ1 cs = .ok false cs1 ∧ I (p ++ [x]) acc cs1) ∨ (∃ y cs2, t ρ1 cs = .ok true cs1 ∧ fe ρ1 cs1 = .ok (.d y) cs2 ∧ I (p ++ [x]) (acc ++ [y]) cs2))) → ∃ zs cs2, lcL tg t fe ρ (xs.map e) acc cs = .ok (.own (.lst zs)) cs2 ∧ I (pre ++ xs) zs cs2
  | [], pre, acc, cs, h, _, _ => ⟨acc, cs, rfl, by rwa [List.append_nil]⟩
  | x :: xs, pre, acc, cs, h, hl, st => by
    obtain ⟨ρ1, cs1, h1, h2⟩ := st pre x acc cs ⟨xs, rfl⟩ h
    rw [List.length_cons] at hl
    have st' : ∀ p y acc cs, (∃ q, pre ++ [x] ++ xs = p ++ y :: q) → I p acc cs → _ := fun p y acc cs hp hi => st p y acc cs (by rw [List.append_assoc] at hp; exact hp) hi
    rw [List.map_cons, lcL_cons, h1]
    rcases h2 with ⟨h2, h3⟩ | ⟨y, cs2, h2, h3, h4⟩
    · obtain ⟨zs, cs3, h5, h6⟩ := lc_inv e I xs (pre ++ [x]) acc cs1 h3 (by omega) st'
      refine ⟨zs, cs3, ?_, by rw [List.append_assoc] at h6; exact h6⟩
      simp only [bnd_, noEr_, h2, Bool.false_eq_true, if_false]
      exact h5
    · obtain ⟨zs, cs3, h5, h6⟩ := lc_inv e I xs (pre ++ [x]) (acc ++ [y]) cs2 h4 (by rw [List.length_append, List.length_singleton]; omega) st'
      refine ⟨zs, cs3, ?_, by rw [List.append_assoc] at h6; exact h6⟩
      have z : acc.length < sizeLine := size_lt (by omega)
      simp only [bnd_, noEr_, h2, h3, if_true, if_pos z]
      exact h5
theorem q_lc {tg : D → List S → Option (List S)} {it : List S → M (List D)} {vs : List Nat} {r : Res Rv} (h1 : it ρ cs = .ok xs cs') (h2 : lcL tg t fe (wipeS ρ vs) xs [] cs' = r) : eLc it tg t fe vs ρ cs = r := eLc_of h1 h2
end
section
variable {x y : Int} {xs ys : List D} {d : D} {k : Int}
theorem p_eqi : eqD (.int x) (.int y) = some (decide (x = y)) := by rw [eqD_int]; rfl
theorem p_nei : neD (.int x) (.int y) = some (decide (x ≠ y)) := by
  rw [neD_int]
  by_cases h : x = y <;> simp [h]
theorem p_eqs {x y : Str} : eqD (.str x) (.str y) = some (decide (x = y)) := by rw [eqD_str]; by_cases h : x = y <;> simp [h]
theorem p_nes {x y : Str} : neD (.str x) (.str y) = some (decide (x ≠ y)) := by rw [neD_str]; by_cases h : x = y <;> simp [h]
theorem p_ixl (h : atI xs k = some d) : ixD (.list xs) (.int k) = some d := h
theorem p_ixt (h : atI xs k = some d) : ixD (.tuple xs) (.int k) = some d := h
theorem p_addt (h : xs.length + ys.length < 1000000) : addD (.tuple xs) (.tuple ys) = some (.tuple (xs ++ ys)) := by rw [addD_tuple, if_pos (size_ok (by omega))]
theorem p_addl (h : xs.length + ys.length < 1000000) : addD (.list xs) (.list ys) = some (.list (xs ++ ys)) := by rw [addD_list, if_pos (size_ok (by omega))]
theorem p_mod (h : 0 < y) : modD (.int x) (.int y) = some (.int (x % y)) := by rw [modD_int, if_pos h]
theorem p_fdiv (h : 0 < y) (hy : y < 2 ^ 100) : fdivD (.int x) (.int y) = some (.int (x / y)) := by
  rw [fdivD_int, if_pos ⟨h, Nat.lt_of_lt_of_le (log2_lt (k := 100) (by omega) (by omega)) (by omega)⟩]
theorem p_mul (hx : x.natAbs < 2 ^ 200) (hy : y.natAbs < 2 ^ 200) : mulD (.int x) (.int y) = some (.int (x * y)) := by
  have a := log2_lt (x := x) (k := 200) (by omega) hx
  have b := log2_lt (x := y) (k := 200) (by omega) hy
  rw [mulD_int, if_pos (by omega)]
theorem p_min : minG [.int x, .int y] = some (.int (min x y)) := by rw [minG_]; congr 2; split <;> omega
theorem p_max : maxG [.int x, .int y] = some (.int (max x y)) := by rw [maxG_]; congr 2; split <;> omega
theorem p_lenl : lenG [.list xs] = some (.int (xs.length : Nat)) := lenG_list xs
theorem p_lent : lenG [.tuple xs] = some (.int (xs.length : Nat)) := lenG_tuple xs
theorem at_app' (p : List D) (x : D) (r : List D) : atI (p ++ x :: r) (p.length : Nat) = some x := atI_of (n := p.length) rfl (by simp)
theorem at_nat {n : Nat} (h : xs[n]? = some d) : atI xs (n : Nat) = some d := atI_of rfl h
end
end Dn

set_option Elab.async false
set_option linter.all false
set_option maxRecDepth 100000
set_option maxHeartbeats 1000000
namespace Dn
open PySem L2
theorem pf_nil (f : Str) (s : S) : putFS f s [] = [(f, s)] := rfl
section
variable {C : Addr} {f : Str} {F : List S → M Rv} {ga : List S → M (List S)} {fo fi fe fk fv : List S → M S} {fr : List S → M Rv} {ρ ss : List S} {cs cs1 cs2 cs3 : Store} {j i : Nat} {fs fs' : List (Str × S)} {xs ys : List D} {x y d : D} {w : World} {kvs : List (NestedKey × D)} {k : NestedKey} {s : S}
theorem i_m (hc : cs[j]? = some (.ins C fs)) : insM (.cel j) cs = .ok (j, C, fs) cs := by unfold insM; simp only [hc]
theorem q_fld (ho : fo ρ cs = .ok (.cel j) cs1) (hc : cs1[j]? = some (.ins C fs)) (hl : fs.lookup f = some s) : eFld C f fo ρ cs = .ok s cs1 := by
  unfold eFld
  rw [bnd_ok ho, bnd_ok (i_m hc)]
  dsimp only
  rw [if_pos rfl]
  unfold lkM
  rw [hl]
  rfl
/-- a field takes something new -/
theorem q_fso {o : OC} (he : fr ρ cs = .ok (.own o) cs1) (ho : fo ρ (cs1 ++ [o]) = .ok (.cel j) (cs1 ++ [o])) (hc : (cs1 ++ [o])[j]? = some (.ins C fs)) (hl : fs.length < 1000) (hp : putFS f (.cel cs1.length) fs = fs') (e : (cs1 ++ [o]).set j (.ins C fs') = cs2) : sFldS C f fo fr ρ cs = .nx ρ cs2 := by
  unfold sFldS
  rw [stp_, bnd_ok he, bnd_ok (show nwM (.own o) cs1 = .ok (.cel cs1.length) (cs1 ++ [o]) from rfl), bnd_ok ho, bnd_ok (i_m hc)]
  dsimp only
  rw [if_pos ⟨rfl, hl⟩, hp, ← e]
  rfl
theorem q_fsd (he : fr ρ cs = .ok (.d x) cs1) (ho : fo ρ cs1 = .ok (.cel j) cs1) (hc : cs1[j]? = some (.ins C fs)) (hl : fs.length < 1000) (hp : putFS f (.d x) fs = fs') (e : cs1.set j (.ins C fs') = cs2) : sFldS C f fo fr ρ cs = .nx ρ cs2 := by
  unfold sFldS
  rw [stp_, bnd_ok he, bnd_ok (show nwM (.d x) cs1 = .ok (.d x) cs1 from rfl), bnd_ok ho, bnd_ok (i_m hc)]
  dsimp only
  rw [if_pos ⟨rfl, hl⟩, hp, ← e]
  rfl
/-- append/extend on what an expression tells -/
theorem q_appX (ho : fo ρ cs = .ok (.cel j) cs1) (h0 : cs1[j]? = some (.lst xs)) (he : fe ρ cs1 = .ok (.d x) cs2) (hc : cs2[j]? = some (.lst ys)) (hl : ys.length < 1000000) (e : cs2.set j (.lst (ys ++ [x])) = cs3) : sExp (eMt appG fo (aCons fe aNil)) ρ cs = .nx ρ cs3 := by
  have c0 : celM (.cel j) cs1 = .ok (j, xs) cs1 := by unfold celM; simp only [h0]
  have c : celM (.cel j) cs2 = .ok (j, ys) cs2 := by unfold celM; simp only [hc]
  have l1 : ys.length < sizeLine := size_lt (by omega)
  have l2 : ys.length ≤ sizeLine := size_ok (by omega)
  refine sExp_of (v := .d .none) ?_
  rw [eMt_, bnd_ok ho, bnd_ok c0, bnd_ok (aCons_of (ga := aNil) he rfl), fin__, bnd_ok c, bnd_ok (show ofO (asD [S.d x]) cs2 = .ok [x] cs2 from rfl), if_pos l2, appG_, if_pos l1, ← e]
  rfl
theorem q_extX {zs : List D} (ho : fo ρ cs = .ok (.cel j) cs1) (h0 : cs1[j]? = some (.lst xs)) (he : fe ρ cs1 = .ok (.d (.list zs)) cs2) (hc : cs2[j]? = some (.lst ys)) (hl : ys.length + zs.length < 1000000) (e : cs2.set j (.lst (ys ++ zs)) = cs3) : sExp (eMt extG fo (aCons fe aNil)) ρ cs = .nx ρ cs3 := by
  have c0 : celM (.cel j) cs1 = .ok (j, xs) cs1 := by unfold celM; simp only [h0]
  have c : celM (.cel j) cs2 = .ok (j, ys) cs2 := by unfold celM; simp only [hc]
  have l1 : ys.length + zs.length ≤ sizeLine := size_ok (by omega)
  have l2 : ys.length ≤ sizeLine := size_ok (by omega)
  refine sExp_of (v := .d .none) ?_
  rw [eMt_, bnd_ok ho, bnd_ok c0, bnd_ok (aCons_of (ga := aNil) he rfl), fin__, bnd_ok c, bnd_ok (show ofO (asD [S.d (.list zs)]) cs2 = .ok [.list zs] cs2 from rfl), if_pos l2, extG_, if_pos l1, ← e]
  rfl
/-- methods -/
theorem q_mth {m : Str} {r : Res Rv} (ho : fo ρ cs = .ok (.cel j) cs1) (hc : cs1[j]? = some (.ins C fs)) (hl : fs.lookup m = none) (ha : ga ρ cs1 = .ok ss cs2) (h : F (.cel j :: ss) cs2 = r) : eMethW C m F fo ga ρ cs = r := by
  unfold eMethW
  rw [bnd_ok ho, bnd_ok (i_m hc)]
  dsimp only
  rw [if_pos ⟨rfl, hl⟩, bnd_ok ha]
  exact h
theorem q_nilM : nilM ρ cs = .ok [] cs := rfl
theorem q_make (ha : ga ρ cs = .ok ss cs1) (h : F (.cel cs1.length :: ss) (cs1 ++ [.ins C []]) = .ok (.d .none) cs2) (e : S.cel cs1.length = s) : eMakeW C F ga ρ cs = .ok s cs2 := by
  unfold eMakeW
  rw [bnd_ok ha]
  unfold mkW
  simp only [h]
  rw [← e]
section
variable {g : G} {c : Str} {ρ' : List S}
theorem q_runW {m : Nat} {r : Rv} (hs : ss ++ List.replicate m .no = ρ) (h : g ρ cs = .rt r cs1) : runW m g ss cs = .ok r cs1 := by
  unfold runW; rw [hs, h]; rfl
theorem q_runWx {m : Nat} (hs : ss ++ List.replicate m .no = ρ) (h : g ρ cs = .nx ρ' cs1) : runW m g ss cs = .ok (.d .none) cs1 := by
  unfold runW; rw [hs, h]; rfl
end
/-- dicts whose keys are data -/
theorem dv_m (hc : cs[j]? = some (.dV w kvs)) : dVM w (.cel j) cs = .ok (j, kvs) cs := by
  unfold dVM
  simp only [hc]
  rfl
theorem tk_m (h : tkD x = some k) : tkM (.d x) cs = .ok k cs := by
  show ofO (tkD x) cs = _
  rw [h]; rfl
theorem q_dV : eDicV w ρ cs = .ok (.own (.dV w [])) cs := rfl
theorem q_dV1 (hk : fk ρ cs = .ok (.d x) cs1) (hv : fv ρ cs1 = .ok (.d y) cs2) (ht : tkD x = some k) : eDicV1 w fk fv ρ cs = .ok (.own (.dV w [(k, y)])) cs2 := by
  unfold eDicV1
  rw [bnd_ok hk, bnd_ok hv, bnd_ok (tk_m ht)]
  rfl
theorem q_inV {neg : Bool} (hk : fi ρ cs = .ok (.d x) cs1) (ho : fo ρ cs1 = .ok (.cel j) cs2) (hc : cs2[j]? = some (.dV w kvs)) (ht : tkD x = some k) : cInV w neg fi fo ρ cs = .ok (if neg = true then !(gvK kvs k).isSome else (gvK kvs k).isSome) cs2 := by
  unfold cInV
  rw [bnd_ok hk, bnd_ok ho, bnd_ok (dv_m hc), bnd_ok (tk_m ht)]
  rfl
theorem q_inVt {z : Bool} (hk : fi ρ cs = .ok (.d x) cs1) (ho : fo ρ cs1 = .ok (.cel j) cs2) (hc : cs2[j]? = some (.dV w kvs)) (ht : tkD x = some k) (hg : (gvK kvs k).isSome = z) : cInV w true fi fo ρ cs = .ok (!z) cs2 := by
  rw [q_inV hk ho hc ht, hg]; rfl
theorem q_inVf {z : Bool} (hk : fi ρ cs = .ok (.d x) cs1) (ho : fo ρ cs1 = .ok (.cel j) cs2) (hc : cs2[j]? = some (.dV w kvs)) (ht : tkD x = some k) (hg : (gvK kvs k).isSome = z) : cInV w false fi fo ρ cs = .ok z cs2 := by
  rw [q_inV hk ho hc ht, hg]; rfl
theorem q_subV (hv : fe ρ cs = .ok (.d y) cs1) (ho : fo ρ cs1 = .ok (.cel j) cs2) (hk : fi ρ cs2 = .ok (.d x) cs3) (hc : cs3[j]? = some (.dV w kvs)) (ht : tkD x = some k) (hl : kvs.length < 1000000) {kvs' : List (NestedKey × D)} {cs4 : Store} (hp : gpK kvs k y = kvs') (e : cs3.set j (.dV w kvs') = cs4) : sSubV w fo fi fe ρ cs = .nx ρ cs4 := by
  unfold sSubV
  rw [stp_, bnd_ok hv, bnd_ok ho, bnd_ok hk, bnd_ok (dv_m hc), bnd_ok (tk_m ht)]
  dsimp only
  rw [if_pos (size_lt (by omega)), hp, ← e]
  rfl
theorem q_keysV (ho : fo ρ cs = .ok (.cel j) cs1) (hc : cs1[j]? = some (.dV w kvs)) (h1 : i < ρ.length) (hl : kvs.length < 1000000) : eKeysV w i fo ρ cs = .ok (.own (.lst (kvs.map fun q => q.1.data))) cs1 := by
  unfold eKeysV
  rw [bnd_ok ho, bnd_ok (dv_m hc), if_pos ⟨h1, size_ok (show kvs.length ≤ 16000000 by omega)⟩]
  rfl
end
section
variable {σ : Type} {ke : σ → NestedKey} {v : D}
theorem gv_rows (hi : ∀ a b, ke a = ke b → a = b) [DecidableEq σ] (s : σ) : ∀ Q : List σ, (gvK (Q.map fun q => (ke q, v)) (ke s)).isSome = decide (s ∈ Q)
  | [] => by simp [gvK]
  | q :: Q => by
    by_cases h : q = s
    · subst h
      simp [gvK]
    · have hk : ke q ≠ ke s := fun e => h (hi _ _ e)
      have ih := gv_rows hi s Q
      unfold gvK at ih ⊢
      rw [List.map_cons, List.find?_cons, decide_eq_false hk]
      rw [ih]
      have : s ≠ q := fun e => h e.symm
      simp [this]
theorem gp_rows (hi : ∀ a b, ke a = ke b → a = b) [DecidableEq σ] {s : σ} {Q : List σ} (h : s ∉ Q) : gpK (Q.map fun q => (ke q, v)) (ke s) v = (Q ++ [s]).map fun q => (ke q, v) := by
  unfold gpK
  rw [if_neg]
  · rw [List.map_append]; rfl
  · simp only [List.any_map, List.any_eq_true, Function.comp, decide_eq_true_eq, not_exists, not_and]
    exact fun q hq e => h (hi _ _ e ▸ hq)
end
/-- a row of whole numbers as a key -/
def kI (xs : List Int) : NestedKey := .tup (xs.map .num)
theorem kI_inj {a b : List Int} (h : kI a = kI b) : a = b := by
  unfold kI at h
  injection h with h
  exact List.map_inj_right (f := NestedKey.num) (fun _ _ e => by injection e) |>.1 h
theorem nkDs_ints : ∀ xs : List Int, nkDs (xs.map .int) = some (xs.map .num)
  | [] => by unfold nkDs; rfl
  | x :: xs => by
    rw [List.map_cons]
    unfold nkDs
    rw [nkDs_ints xs]
    unfold nkD
    rfl
theorem kI_data : ∀ xs : List Int, (kI xs).data = .tuple (xs.map .int) := fun xs => by
  have e : nkD (.tuple (xs.map .int)) = some (kI xs) := by
    unfold nkD
    rw [nkDs_ints]; rfl
  exact nkD_data _ _ e
theorem kI_depth : ∀ xs : List Int, (kI xs).depth ≤ 2 := by
  have : ∀ xs : List Int, NestedKey.depthAll (xs.map .num) ≤ 1 := fun xs => by
    induction xs with
    | nil => simp [NestedKey.depthAll]
    | cons x xs ih =>
      rw [List.map_cons]
      simp only [NestedKey.depthAll, NestedKey.depth]
      omega
  intro xs
  have := this xs
  unfold kI
  simp only [NestedKey.depth]
  omega
theorem tkD_ints (xs : List Int) : tkD (.tuple (xs.map .int)) = some (kI xs) := by
  have := kI_depth xs
  unfold kI at this ⊢
  unfold tkD
  dsimp only
  rw [nkDs_ints]
  dsimp only
  rw [if_pos (by omega)]
theorem tkD_app (xs ys : List Int) : tkD (.tuple (xs.map .int ++ ys.map .int)) = some (kI (xs ++ ys)) := by
  rw [← List.map_append]; exact tkD_ints _
/-- a row told as known -/
def kT (s : List Int) : NestedKey × D := (kI s, .bool true)
theorem has_kT {s : List Int} {Q : List (List Int)} (h : s ∈ Q) : (gvK (Q.map kT) (kI s)).isSome = true := by
  have e := gv_rows (ke := kI) (v := .bool true) (fun _ _ h => kI_inj h) s Q
  exact e.trans (by simp only [decide_eq_true_eq]; exact h)
theorem no_kT {s : List Int} {Q : List (List Int)} (h : s ∉ Q) : (gvK (Q.map kT) (kI s)).isSome = false := by
  have e := gv_rows (ke := kI) (v := .bool true) (fun _ _ h => kI_inj h) s Q
  exact e.trans (by simp only [decide_eq_false_iff_not]; exact h)
theorem put_kT {s : List Int} {Q : List (List Int)} (h : s ∉ Q) : gpK (Q.map kT) (kI s) (.bool true) = (Q ++ [s]).map kT := gp_rows (ke := kI) (v := .bool true) (fun _ _ h => kI_inj h) h
theorem alikeAll_ints : ∀ (xs ys : List Int), PySem.W.alikeAll (xs.map .int) (ys.map .int) = true
  | [], ys => by unfold PySem.W.alikeAll; cases ys <;> rfl
  | x :: xs, [] => by unfold PySem.W.alikeAll; rfl
  | x :: xs, y :: ys => by
    rw [List.map_cons, List.map_cons]
    unfold PySem.W.alikeAll PySem.W.alike
    rw [alikeAll_ints xs ys]; rfl
theorem depth_ints : ∀ xs : List Int, PyData.depth (.tuple (xs.map .int)) ≤ 3 := by
  have : ∀ xs : List Int, PyData.depthAll (xs.map .int) ≤ 2 := fun xs => by
    induction xs with
    | nil => simp [PyData.depthAll]
    | cons x xs ih =>
      rw [List.map_cons]
      simp only [PyData.depthAll, PyData.depth]
      omega
  intro xs
  have := this xs
  simp only [PyData.depth]
  omega
theorem srtOk_ints (Q : List (List Int)) (h : ∀ q ∈ Q, q ≠ []) : srtOk (Q.map fun q => .tuple (q.map .int)) = true := by
  unfold srtOk
  rw [Bool.and_eq_true, Bool.and_eq_true, Bool.or_eq_true]
  refine ⟨?_, .inl ?_, ?_⟩
  · rw [List.all_eq_true]
    intro a ha
    rw [List.all_eq_true]
    intro b hb
    obtain ⟨p, _, rfl⟩ := List.mem_map.1 ha
    obtain ⟨q, _, rfl⟩ := List.mem_map.1 hb
    unfold PySem.W.alike
    exact alikeAll_ints p q
  · rw [List.all_eq_true]
    intro a ha
    obtain ⟨p, hp, rfl⟩ := List.mem_map.1 ha
    cases p with
    | nil => exact (h _ hp rfl).elim
    | cons x p => rfl
  · rw [List.all_eq_true]
    intro a ha
    obtain ⟨p, _, rfl⟩ := List.mem_map.1 ha
    have := depth_ints p
    exact decide_eq_true (by omega)
theorem sortedTG_ints (Q : List (List Int)) (h : (∀ q ∈ Q, q ≠ []) ∨ Q = [[]]) (hl : Q.length < 1000000) : sortedTG [.list (Q.map fun q => .tuple (q.map .int))] = some (.list (sortDt (Q.map fun q => .tuple (q.map .int)))) := by
  show (if _ then _ else _) = _
  rw [if_pos]
  rw [Bool.and_eq_true, Bool.or_eq_true]
  refine ⟨decide_eq_true (size_ok (by rw [List.length_map]; omega)), ?_⟩
  rcases h with h | h
  · exact .inl (srtOk_ints Q h)
  · subst h
    exact .inr rfl
end Dn

set_option Elab.async false
set_option linter.all false
set_option maxRecDepth 100000
set_option maxHeartbeats 4000000
namespace Law
open PySem L2 Dn
noncomputable section
def B_is_number : G :=
    (sRet (eRv (eAndM (eIsa "int" (eV 0)) (eAndM (eNotM (eIsa "bool" (eV 0))) (eChn leD leD (eV 1) (eV 0) (eV 2))))))
def F_is_number : List S → M Rv := runG 0 B_is_number
def B_is_money : G :=
    (sRet (eCall F_is_number (aCons (eV 0) (aCons (eC (.int (0))) (aCons (eC (.int (1000000000000))) aNil)))))
def F_is_money : List S → M Rv := runG 0 B_is_money
def B_is_tuple : G :=
    (sRet (eRv (eAndM (eIsa "tuple" (eV 0)) (eChn leD leD (eV 1) (eCd lenG (aCons (eV 0) aNil)) (eV 2)))))
def F_is_tuple : List S → M Rv := runG 0 B_is_tuple
def B_clipped : G :=
    (gSeq (sIf (op2 eqD (eV 1) (eTup aNil)) (sRet (eRv (eV 0))) gNil)
    (sRet (eRv (eCd minG (aCons (eCd maxG (aCons (eBin subD (eV 0) (eBin ixD (eV 1) (eC (.int (1))))) (aCons (eC (.int (0))) aNil))) (aCons (eBin ixD (eV 1) (eC (.int (0)))) aNil))))))
def F_clipped : List S → M Rv := runG 0 B_clipped
def B_same (f_same : List S → M Rv) : G :=
    (gSeq (sIf (op1 isnD (eV 1)) (sRet (eRv (eIsN (eV 0)))) gNil)
    (gSeq (sIf (tOrM (tAndM (tT (eIsa "list" (eV 1))) (tNotM (tT (eIsa "list" (eV 0))))) (tAndM (tT (eIsa "tuple" (eV 1))) (tNotM (tT (eIsa "tuple" (eV 0)))))) (sRet (eRv (eC (.bool false)))) gNil)
    (gSeq (sIf (tOrM (tT (eIsa "list" (eV 1))) (tT (eIsa "tuple" (eV 1)))) (sRet (eRv (eAndM (eCmp eqD (eCd lenG (aCons (eV 0) aNil)) (eCd lenG (aCons (eV 1) aNil))) (eCmp eqD (eFrz (eLc (iRng (eCd lenG (aCons (eV 1) aNil))) (gtN 2) (tNotM (tT (eFrz (eCall f_same (aCons (eBin ixD (eV 0) (eV 2)) (aCons (eBin ixD (eV 1) (eV 2)) aNil)))))) (eV 2) [2])) (eFrz (eLst aNil)))))) gNil)
    (gSeq (sIf (tT (eIsa "int" (eV 1))) (sRet (eRv (eAndM (eIsa "int" (eV 0)) (eAndM (eNotM (eIsa "bool" (eV 0))) (eCmp eqD (eV 0) (eV 1)))))) gNil)
    (sRet (eRv (eAndM (eIsa "str" (eV 0)) (eCmp eqD (eV 0) (eV 1)))))))))
def F_same : Nat → List S → M Rv
  | 0 => F0
  | n + 1 => runG 1 (B_same (F_same n))
def B_is_kind : G :=
    (gSeq (sIf (tOrM (tNotM (tT (eIsa "tuple" (eV 0)))) (tOrM (op2 ltD (eCd lenG (aCons (eV 0) aNil)) (eC (.int (2)))) (tNotM (tT (eIsa "str" (eBin ixD (eV 0) (eC (.int (0))))))))) (sRet (eRv (eC (.bool false)))) gNil)
    (gSeq (sIf (op2 eqD (eBin ixD (eV 0) (eC (.int (0)))) (eC (.str "part"))) (sRet (eRv (eAndM (eCmp eqD (eCd lenG (aCons (eV 0) aNil)) (eC (.int (2)))) (eFrz (eCall F_is_number (aCons (eBin ixD (eV 0) (eC (.int (1)))) (aCons (eC (.int (0))) (aCons (eC (.int (10000))) aNil)))))))) gNil)
    (gSeq (sIf (op2 inD (eBin ixD (eV 0) (eC (.int (0)))) (eTup (aCons (eC (.str "risk")) (aCons (eC (.str "event")) aNil)))) (sRet (eRv (eAndM (eCmp eqD (eCd lenG (aCons (eV 0) aNil)) (eC (.int (3)))) (eAndM (eFrz (eCall F_is_money (aCons (eBin ixD (eV 0) (eC (.int (1)))) aNil))) (eFrz (eCall F_is_money (aCons (eBin ixD (eV 0) (eC (.int (2)))) aNil))))))) gNil)
    (gSeq (sIf (tOrM (op2 neD (eBin ixD (eV 0) (eC (.int (0)))) (eC (.str "year"))) (tOrM (op2 neD (eCd lenG (aCons (eV 0) aNil)) (eC (.int (5)))) (tOrM (tNotM (tT (eFrz (eCall F_is_money (aCons (eBin ixD (eV 0) (eC (.int (1)))) aNil))))) (tNotM (tT (eFrz (eCall F_is_money (aCons (eBin ixD (eV 0) (eC (.int (2)))) aNil)))))))) (sRet (eRv (eC (.bool false)))) gNil)
    (sRet (eRv (eAndM (eFrz (eCall F_is_number (aCons (eBin ixD (eV 0) (eC (.int (3)))) (aCons (eC (.int (0))) (aCons (eC (.int (8))) aNil))))) (eFrz (eCall F_is_number (aCons (eBin ixD (eV 0) (eC (.int (4)))) (aCons (eC (.int (0))) (aCons (eC (.int (100000))) aNil))))))))))))
def F_is_kind : List S → M Rv := runG 0 B_is_kind
def B_check_tower : G :=
    (sIf (tOrM (tNotM (tT (eFrz (eCall F_is_tuple (aCons (eV 0) (aCons (eC (.int (0))) (aCons (eC (.int (4))) aNil))))))) (tT (eFrz (eLc (iAnyM (eV 0)) (gtN 1) (tOrM (tNotM (tT (eFrz (eCall F_is_kind (aCons (eV 1) aNil))))) (op2 eqD (eBin ixD (eV 1) (eC (.int (0)))) (eC (.str "part")))) (eV 1) [1])))) (sErr "BadArgument") gNil)
def F_check_tower : List S → M Rv := runG 1 B_check_tower
def B_layer_of : G :=
    (sRet (eRv (eIf (op2 eqD (eBin ixD (eV 0) (eC (.int (0)))) (eC (.str "year"))) (eTup (aCons (eBin mulD (eBin ixD (eV 0) (eC (.int (1)))) (eBin addD (eBin ixD (eV 0) (eC (.int (3)))) (eC (.int (1))))) (aCons (eBin ixD (eV 0) (eC (.int (2)))) aNil))) (eTup (aCons (eBin ixD (eV 0) (eC (.int (1)))) (aCons (eBin ixD (eV 0) (eC (.int (2)))) aNil))))))
def F_layer_of : List S → M Rv := runG 0 B_layer_of
def B_taken : G :=
    (gSeq (sNew 5 (eLst aNil))
    (gSeq (sSet 6 (eV 3))
    (gSeq (sFor (gtN 7) (iRng (eCd lenG (aCons (eV 0) aNil))) (gSeq (sSet 8 (eIf (tOrM (op2 eqD (eBin ixD (eBin ixD (eV 0) (eV 7)) (eC (.int (0)))) (eC (.str "risk"))) (tAndM (op2 eqD (eBin ixD (eBin ixD (eV 0) (eV 7)) (eC (.int (0)))) (eC (.str "event"))) (op2 eqD (eV 4) (eC (.int (1)))))) (eC (.int (0))) (eBin ixD (eV 2) (eV 7))))
      (gSeq (sSet 9 (eBin subD (eFrz (eCall F_clipped (aCons (eBin addD (eV 8) (eV 6)) (aCons (eBin ixD (eV 1) (eV 7)) aNil)))) (eFrz (eCall F_clipped (aCons (eV 8) (aCons (eBin ixD (eV 1) (eV 7)) aNil))))))
      (gSeq (sExp (eMt appG (eV 5) (aCons (eIf (op2 eqD (eBin ixD (eBin ixD (eV 0) (eV 7)) (eC (.int (0)))) (eC (.str "risk"))) (eC (.int (0))) (eCd minG (aCons (eBin addD (eV 8) (eV 6)) (aCons (eBin addD (eBin ixD (eBin ixD (eV 1) (eV 7)) (eC (.int (0)))) (eBin ixD (eBin ixD (eV 1) (eV 7)) (eC (.int (1))))) aNil)))) aNil)))
      (sSet 6 (eBin subD (eV 6) (eV 9)))))))
    (sRet (eRv (eTup (aCons (eCd tupleG (aCons (eV 5) aNil)) (aCons (eV 6) aNil))))))))
def F_taken : List S → M Rv := runG 5 B_taken
def B_Towers_after (K : PySem.W.Frag) (w : PySem.World) : G :=
    (gSeq (sSet 4 (eCd lenG (aCons (eBin ixD (eFld (He.ga K "Towers") "towers" (eV 0)) (eC (.int (0)))) aNil)))
    (gSeq (sTgt (gtT (gtsCons (gtN 5) (gtsCons (gtN 6) gtsNil))) (eFrz (eCall F_taken (aCons (eBin ixD (eFld (He.ga K "Towers") "towers" (eV 0)) (eC (.int (0)))) (aCons (eBin ixD (eFld (He.ga K "Towers") "layers" (eV 0)) (eC (.int (0)))) (aCons (eSl (eV 1) oNone (oSome (eV 4))) (aCons (eV 2) (aCons (eV 3) aNil))))))))
    (gSeq (sTgt (gtT (gtsCons (gtN 7) (gtsCons (gtN 8) gtsNil))) (eFrz (eCall F_taken (aCons (eBin ixD (eFld (He.ga K "Towers") "towers" (eV 0)) (eC (.int (1)))) (aCons (eBin ixD (eFld (He.ga K "Towers") "layers" (eV 0)) (eC (.int (1)))) (aCons (eSl (eV 1) (oSome (eV 4)) oNone) (aCons (eV 2) (aCons (eV 3) aNil))))))))
    (sRet (eRv (eTup (aCons (eBin addD (eV 5) (eV 7)) (aCons (eV 6) (aCons (eV 8) aNil)))))))))
def F_Towers_after (K : PySem.W.Frag) (w : PySem.World) : List S → M Rv := runW 5 (B_Towers_after K w)
def B_Towers_check_standings (K : PySem.W.Frag) (w : PySem.World) : G :=
    (gSeq (sFldS (He.ga K "Towers") "standings" (eV 0) (eLst (aCons (eFld (He.ga K "Towers") "start" (eV 0)) aNil)))
    (gSeq (sNew 1 (eDicV1 w (eFld (He.ga K "Towers") "start" (eV 0)) (eC (.bool true))))
    (gSeq (sSet 2 (eC (.int (0))))
    (sWhile (fun _ _ => 5000) (op2 ltD (eV 2) (eCd lenG (aCons (eFld (He.ga K "Towers") "standings" (eV 0)) aNil))) (gSeq (sForC (gtT (gtsCons (gtN 3) (gtsCons (gtN 4) (gtsCons (gtN 5) gtsNil)))) (iCel (eFld (He.ga K "Towers") "pairs" (eV 0))) (gSeq (sSet 6 (eBin ixD (eFrz (eMethW (He.ga K "Towers") "after" (F_Towers_after K w) (eV 0) (aCons (eBin ixD (eFld (He.ga K "Towers") "standings" (eV 0)) (eV 2)) (aCons (eV 4) (aCons (eV 5) aNil))))) (eC (.int (0)))))
        (sIf (cInV w true (eV 6) (eV 1)) (gSeq (sIf (op2 eqD (eCd lenG (aCons (eFld (He.ga K "Towers") "standings" (eV 0)) aNil)) (eC (.int (4000)))) (sErr "TooLarge") gNil)
          (gSeq (sSubV w (eV 1) (eV 6) (eC (.bool true)))
          (sExp (eMt appG (eFld (He.ga K "Towers") "standings" (eV 0)) (aCons (eV 6) aNil))))) gNil)))
      (sSet 2 (eBin addD (eV 2) (eC (.int (1))))))))))
def F_Towers_check_standings (K : PySem.W.Frag) (w : PySem.World) : List S → M Rv := runW 6 (B_Towers_check_standings K w)
def B_Towers___init__ (K : PySem.W.Frag) (w : PySem.World) : G :=
    (gSeq (sIf (tNotM (tT (eFrz (eCall F_is_number (aCons (eV 3) (aCons (eC (.int (1))) (aCons (eC (.int (1000000000))) aNil))))))) (sErr "BadArgument") gNil)
    (gSeq (sIf (tOrM (tNotM (tT (eFrz (eCall F_is_tuple (aCons (eV 4) (aCons (eC (.int (1))) (aCons (eC (.int (6))) aNil))))))) (tT (eFrz (eLc (iAnyM (eV 4)) (gtN 8) (tOrM (tNotM (tT (eFrz (eCall F_is_money (aCons (eV 8) aNil))))) (op2 ltD (eV 8) (eC (.int (1))))) (eV 8) [8])))) (sErr "BadArgument") gNil)
    (gSeq (sIf (op2 neD (eCd listG (aCons (eV 4) aNil)) (eCd sortedSetG (aCons (eV 4) aNil))) (sErr "BadArgument") gNil)
    (gSeq (sNew 5 (eOwnL (eV 4)))
    (gSeq (sFor (gtN 6) (iAnyM (eBin addD (eV 1) (eV 2))) (sExp (eMt extG (eV 5) (aCons (eBin addD (eCd listG (aCons (eFrz (eCall F_layer_of (aCons (eV 6) aNil))) aNil)) (eFrz (eLst (aCons (eBin ixD (eV 6) (eC (.int (1)))) aNil)))) aNil))))
    (gSeq (sIf (tT (eFrz (eLcC (iCel (eV 5)) (gtN 9) (op2 neD (eBin modD (eV 9) (eV 3)) (eC (.int (0)))) (eV 9) [9]))) (sErr "BadArgument") gNil)
    (gSeq (sIf (op2 gtD (eBin fdivD (eCd maxLG (aCons (eV 5) aNil)) (eV 3)) (eC (.int (40)))) (sErr "TooLarge") gNil)
    (gSeq (sFldS (He.ga K "Towers") "towers" (eV 0) (eRv (eTup (aCons (eV 1) (aCons (eV 2) aNil)))))
    (gSeq (sFldS (He.ga K "Towers") "layers" (eV 0) (eLst aNil))
    (gSeq (sFor (gtN 7) (iAnyM (eFld (He.ga K "Towers") "towers" (eV 0))) (sExp (eMt appG (eFld (He.ga K "Towers") "layers" (eV 0)) (aCons (eFrz (eLc (iAnyM (eV 7)) (gtN 6) tYesM (eTup (aCons (eBin fdivD (eBin ixD (eFrz (eCall F_layer_of (aCons (eV 6) aNil))) (eC (.int (0)))) (eV 3)) (aCons (eBin fdivD (eBin ixD (eFrz (eCall F_layer_of (aCons (eV 6) aNil))) (eC (.int (1)))) (eV 3)) aNil))) [6])) aNil))))
    (gSeq (sFldS (He.ga K "Towers") "pairs" (eV 0) (eLst aNil))
    (gSeq (sFor (gtN 8) (iAnyM (eV 4)) (sExp (eMt extG (eFld (He.ga K "Towers") "pairs" (eV 0)) (aCons (eFrz (eLst (aCons (eTup (aCons (eTup (aCons (eV 8) (aCons (eC (.int (1))) aNil))) (aCons (eBin fdivD (eV 8) (eV 3)) (aCons (eC (.int (1))) aNil)))) (aCons (eTup (aCons (eTup (aCons (eV 8) (aCons (eC (.int (0))) aNil))) (aCons (eBin fdivD (eV 8) (eV 3)) (aCons (eC (.int (0))) aNil)))) aNil)))) aNil))))
    (gSeq (sFldS (He.ga K "Towers") "start" (eV 0) (eRv (eBin mulE (eTup (aCons (eC (.int (0))) aNil)) (eBin addD (eCd lenG (aCons (eV 1) aNil)) (eCd lenG (aCons (eV 2) aNil))))))
    (sExp (eFrz (eMethW (He.ga K "Towers") "check_standings" (F_Towers_check_standings K w) (eV 0) nilM))))))))))))))))
def F_Towers___init__ (K : PySem.W.Frag) (w : PySem.World) : List S → M Rv := runW 5 (B_Towers___init__ K w)
def B_Towers_apart (K : PySem.W.Frag) (w : PySem.World) : G :=
    (gSeq (sNew 1 (eLst (aCons (eTup (aCons (eFld (He.ga K "Towers") "start" (eV 0)) (aCons (eFrz (eLst aNil)) aNil))) aNil)))
    (gSeq (sNew 2 (eDicV1 w (eFld (He.ga K "Towers") "start" (eV 0)) (eC (.bool true))))
    (gSeq (sSet 3 (eC (.int (0))))
    (gSeq (sWhile (fun _ _ => 5000) (op2 ltD (eV 3) (eCd lenG (aCons (eV 1) aNil))) (gSeq (sTgt (gtT (gtsCons (gtN 4) (gtsCons (gtN 5) gtsNil))) (eBin ixD (eV 1) (eV 3)))
      (gSeq (sForC (gtT (gtsCons (gtN 6) (gtsCons (gtN 7) (gtsCons (gtN 8) gtsNil)))) (iCel (eFld (He.ga K "Towers") "pairs" (eV 0))) (gSeq (sTgt (gtT (gtsCons (gtN 9) (gtsCons (gtN 10) (gtsCons (gtN 11) gtsNil)))) (eFrz (eMethW (He.ga K "Towers") "after" (F_Towers_after K w) (eV 0) (aCons (eV 4) (aCons (eV 7) (aCons (eV 8) aNil))))))
        (gSeq (sIf (op2 neD (eV 10) (eV 11)) (sRet (eRv (eBin addD (eV 5) (eFrz (eLst (aCons (eV 6) aNil)))))) gNil)
        (sIf (cInV w true (eV 9) (eV 2)) (gSeq (sSubV w (eV 2) (eV 9) (eC (.bool true)))
          (sExp (eMt appG (eV 1) (aCons (eTup (aCons (eV 9) (aCons (eBin addD (eV 5) (eFrz (eLst (aCons (eV 6) aNil)))) aNil))) aNil)))) gNil))))
      (sSet 3 (eBin addD (eV 3) (eC (.int (1))))))))
    (sRet (eRv (eC .none)))))))
def F_Towers_apart (K : PySem.W.Frag) (w : PySem.World) : List S → M Rv := runW 11 (B_Towers_apart K w)
def B_towers_alike (K : PySem.W.Frag) (w : PySem.World) : G :=
    (gSeq (sExp (eFrz (eCall F_check_tower (aCons (eV 0) aNil))))
    (gSeq (sExp (eFrz (eCall F_check_tower (aCons (eV 1) aNil))))
    (gSeq (sSet 4 (eMakeW (He.ga K "Towers") (F_Towers___init__ K w) (aCons (eV 0) (aCons (eV 1) (aCons (eV 2) (aCons (eV 3) aNil))))))
    (gSeq (sSet 5 (eFrz (eMethW (He.ga K "Towers") "apart" (F_Towers_apart K w) (eV 4) nilM)))
    (gSeq (sIf (op1 isnD (eV 5)) (sRet (eRv (eTup (aCons (eC (.str "alike")) (aCons (eCd sortedTG (aCons (eFld (He.ga K "Towers") "standings" (eV 4)) aNil)) aNil))))) gNil)
    (sRet (eRv (eTup (aCons (eC (.str "apart")) (aCons (eV 5) aNil))))))))))
def F_towers_alike (K : PySem.W.Frag) (w : PySem.World) : List S → M Rv := runG 2 (B_towers_alike K w)
def B_is_tower_paper (K : PySem.W.Frag) (w : PySem.World) : G :=
    (gSeq (sSet 5 (eFrz (eCall (F_towers_alike K w) (aCons (eV 0) (aCons (eV 1) (aCons (eV 2) (aCons (eV 3) aNil)))))))
    (sRet (eRv (eAndM (eCmp eqD (eBin ixD (eV 5) (eC (.int (0)))) (eC (.str "alike"))) (eFrz (eCall (F_same 40) (aCons (eV 4) (aCons (eBin ixD (eV 5) (eC (.int (1)))) aNil))))))))
def F_is_tower_paper (K : PySem.W.Frag) (w : PySem.World) : List S → M Rv := runG 1 (B_is_tower_paper K w)
def B__law_mixed : G :=
    (gSeq (sSet 2 (eBin modD (eBin addD (eBin addD (eBin mulD (eV 0) (eC (.int (48271)))) (eBin mulD (eV 1) (eC (.int (69621))))) (eC (.int (12345)))) (eC (.int (2147483647)))))
    (sRet (eRv (eBin modD (eBin addD (eBin mulD (eV 2) (eBin addD (eBin fdivD (eV 2) (eC (.int (65536)))) (eC (.int (3))))) (eV 1)) (eC (.int (2147483647)))))))
def F__law_mixed : List S → M Rv := runG 1 B__law_mixed
def B__law_numbers : G :=
    (gSeq (sNew 1 (eLst aNil))
    (gSeq (sFor (gtN 2) (iAnyM (eV 0)) (sIf (op2 geD (eV 2) (eBin powD (eC (.int (10))) (eC (.int (18))))) (gSeq (sSet 3 (eV 2))
        (sFor (gtN 4) (iRng (eC (.int (60)))) (sIf (op2 gtD (eV 3) (eC (.int (0)))) (gSeq (sExp (eMt appG (eV 1) (aCons (eBin modD (eV 3) (eC (.int (1000000)))) aNil)))
            (sSet 3 (eBin fdivD (eV 3) (eC (.int (1000000)))))) gNil))) (gSeq (sExp (eMt appG (eV 1) (aCons (eBin modD (eV 2) (eC (.int (1000000)))) aNil)))
        (sFor (gtN 4) (iRng (eC (.int (5)))) (sExp (eMt appG (eV 1) (aCons (eBin modD (eFrz (eCall F__law_mixed (aCons (eFrz (eCall F__law_mixed (aCons (eBin modD (eV 2) (eC (.int (2147483647)))) (aCons (eV 4) aNil)))) (aCons (eBin addD (eV 4) (eC (.int (7)))) aNil)))) (eC (.int (1000000)))) aNil)))))))
    (sRet (eRv (eV 1)))))
def F__law_numbers : List S → M Rv := runG 4 B__law_numbers
def B__law_draw : G :=
    (gSeq (sSet 1 (eBin ixD (eV 0) (eC (.int (1)))))
    (gSeq (sSub (eV 0) (eC (.int (1))) (eBin addD (eV 1) (eC (.int (1)))))
    (gSeq (sIf (op2 ltD (eV 1) (eCd lenG (aCons (eBin ixD (eV 0) (eC (.int (0)))) aNil))) (sRet (eRv (eBin ixD (eBin ixD (eV 0) (eC (.int (0)))) (eV 1)))) gNil)
    (gSeq (sSet 2 (eBin addD (eC (.int (1))) (eV 1)))
    (gSeq (sIf (op2 gtD (eCd lenG (aCons (eBin ixD (eV 0) (eC (.int (0)))) aNil)) (eC (.int (0)))) (sSet 2 (eBin addD (eV 2) (eBin mulD (eC (.int (1009))) (eBin ixD (eBin ixD (eV 0) (eC (.int (0)))) (eC (.int (0))))))) gNil)
    (sRet (eRv (eBin modD (eFrz (eCall F__law_mixed (aCons (eFrz (eCall F__law_mixed (aCons (eV 2) (aCons (eV 1) aNil)))) (aCons (eC (.int (5))) aNil)))) (eC (.int (1000000)))))))))))
def F__law_draw : List S → M Rv := runG 2 B__law_draw
def B__law_all_equal (f__law_all_equal : List S → M Rv) (f__law_equal : List S → M Rv) : G :=
    (gSeq (sFor (gtN 2) (iRng (eCd lenG (aCons (eV 1) aNil))) (sIf (tNotM (tT (eFrz (eCall f__law_equal (aCons (eBin ixD (eV 0) (eV 2)) (aCons (eBin ixD (eV 1) (eV 2)) aNil)))))) (sRet (eRv (eC (.bool false)))) gNil))
    (sRet (eRv (eC (.bool true)))))
def B__law_equal (f__law_all_equal : List S → M Rv) (f__law_equal : List S → M Rv) : G :=
    (gSeq (sIf (tT (eIsa "list" (eV 1))) (gSeq (sIf (tOrM (tNotM (tT (eIsa "list" (eV 0)))) (op2 neD (eCd lenG (aCons (eV 0) aNil)) (eCd lenG (aCons (eV 1) aNil)))) (sRet (eRv (eC (.bool false)))) gNil)
      (sRet (eCall f__law_all_equal (aCons (eV 0) (aCons (eV 1) aNil))))) gNil)
    (gSeq (sIf (tT (eIsa "tuple" (eV 1))) (gSeq (sIf (tOrM (tNotM (tT (eIsa "tuple" (eV 0)))) (op2 neD (eCd lenG (aCons (eV 0) aNil)) (eCd lenG (aCons (eV 1) aNil)))) (sRet (eRv (eC (.bool false)))) gNil)
      (sRet (eCall f__law_all_equal (aCons (eV 0) (aCons (eV 1) aNil))))) gNil)
    (gSeq (sIf (tT (eIsa "bool" (eV 1))) (sRet (eRv (eAndM (eIsa "bool" (eV 0)) (eCmp eqD (eV 0) (eV 1))))) gNil)
    (gSeq (sIf (tT (eIsa "int" (eV 1))) (sRet (eRv (eAndM (eIsa "int" (eV 0)) (eAndM (eNotM (eIsa "bool" (eV 0))) (eCmp eqD (eV 0) (eV 1)))))) gNil)
    (gSeq (sIf (tT (eIsa "str" (eV 1))) (sRet (eRv (eAndM (eIsa "str" (eV 0)) (eCmp eqD (eV 0) (eV 1))))) gNil)
    (sRet (eRv (eIsN (eV 0)))))))))
mutual
def F__law_all_equal : Nat → List S → M Rv
  | 0 => F0
  | n + 1 => runG 1 (B__law_all_equal (F__law_all_equal n) (F__law_equal n))
def F__law_equal : Nat → List S → M Rv
  | 0 => F0
  | n + 1 => runG 0 (B__law_equal (F__law_all_equal n) (F__law_equal n))
end
def B__law_clip : G :=
    (sRet (eRv (eCd minG (aCons (eCd maxG (aCons (eBin subD (eV 0) (eBin ixD (eV 1) (eC (.int (1))))) (aCons (eC (.int (0))) aNil))) (aCons (eBin ixD (eV 1) (eC (.int (0)))) aNil)))))
def F__law_clip : List S → M Rv := runG 0 B__law_clip
def B__law_layer : G :=
    (sRet (eRv (eIf (op2 eqD (eBin ixD (eV 0) (eC (.int (0)))) (eC (.str "year"))) (eTup (aCons (eBin mulD (eBin ixD (eV 0) (eC (.int (1)))) (eBin addD (eC (.int (1))) (eBin ixD (eV 0) (eC (.int (3)))))) (aCons (eBin ixD (eV 0) (eC (.int (2)))) aNil))) (eTup (aCons (eBin ixD (eV 0) (eC (.int (1)))) (aCons (eBin ixD (eV 0) (eC (.int (2)))) aNil))))))
def F__law_layer : List S → M Rv := runG 0 B__law_layer
def B__law_take : G :=
    (gSeq (sNew 4 (eLst aNil))
    (gSeq (sFor (gtN 5) (iRng (eCd lenG (aCons (eV 0) aNil))) (gSeq (sSet 6 (eFrz (eCall F__law_layer (aCons (eBin ixD (eV 0) (eV 5)) aNil))))
      (gSeq (sSet 7 (eBin ixD (eV 1) (eV 5)))
      (gSeq (sIf (tOrM (op2 eqD (eBin ixD (eBin ixD (eV 0) (eV 5)) (eC (.int (0)))) (eC (.str "risk"))) (tAndM (op2 eqD (eBin ixD (eBin ixD (eV 0) (eV 5)) (eC (.int (0)))) (eC (.str "event"))) (op2 eqD (eV 3) (eC (.int (1)))))) (sSet 7 (eC (.int (0)))) gNil)
      (gSeq (sExp (eMt appG (eV 4) (aCons (eIf (op2 eqD (eBin ixD (eBin ixD (eV 0) (eV 5)) (eC (.int (0)))) (eC (.str "risk"))) (eC (.int (0))) (eBin addD (eV 7) (eV 2))) aNil)))
      (sSet 2 (eBin subD (eV 2) (eBin subD (eFrz (eCall F__law_clip (aCons (eBin addD (eV 7) (eV 2)) (aCons (eV 6) aNil)))) (eFrz (eCall F__law_clip (aCons (eV 7) (aCons (eV 6) aNil))))))))))))
    (sRet (eCp (eV 4) (eV 2)))))
def F__law_take : List S → M Rv := runG 4 B__law_take
def B__law_cut : G :=
    (sRet (eRv (eCd tupleG (aCons (eFrz (eLc (iRng (eCd lenG (aCons (eV 0) aNil))) (gtN 3) tYesM (eBin fdivD (eCd minG (aCons (eBin ixD (eV 1) (eV 3)) (aCons (eCd sumG (aCons (eFrz (eCall F__law_layer (aCons (eBin ixD (eV 0) (eV 3)) aNil))) aNil)) aNil))) (eV 2)) [3])) aNil))))
def F__law_cut : List S → M Rv := runG 1 B__law_cut
def B__law_walk (K : PySem.W.Frag) (w : PySem.World) : G :=
    (gSeq (sSet 4 (eTup (aCons (eBin mulE (eTup (aCons (eC (.int (0))) aNil)) (eCd lenG (aCons (eV 0) aNil))) (aCons (eBin mulE (eTup (aCons (eC (.int (0))) aNil)) (eCd lenG (aCons (eV 1) aNil))) aNil))))
    (gSeq (sNew 5 (eLst (aCons (eTup (aCons (eV 4) (aCons (eFrz (eLst aNil)) aNil))) aNil)))
    (gSeq (sNew 6 (eDicV w))
    (gSeq (sSubV w (eV 6) (eBin addD (eBin ixD (eV 4) (eC (.int (0)))) (eBin ixD (eV 4) (eC (.int (1))))) (eC (.bool true)))
    (gSeq (sFor (gtN 7) (iRng (eC (.int (5000)))) (gSeq (sIf (op2 eqD (eV 7) (eCd lenG (aCons (eV 5) aNil))) (sRet (eLst (aCons (eC (.str "alike")) (aCons (eCd sortedTG (aCons (eFrz (eKeysV w 15 (eV 6))) aNil)) aNil)))) gNil)
      (gSeq (sTgt (gtT (gtsCons (gtN 8) (gtsCons (gtN 9) gtsNil))) (eBin ixD (eV 5) (eV 7)))
      (sFor (gtN 10) (iAnyM (eV 3)) (sFor (gtN 11) (iAnyM (eIf (op2 gtD (eCd lenG (aCons (eV 9) aNil)) (eC (.int (0)))) (eFrz (eLst (aCons (eC (.int (1))) (aCons (eC (.int (0))) aNil)))) (eFrz (eLst (aCons (eC (.int (1))) aNil))))) (gSeq (sSet 12 (eFrz (eCall F__law_take (aCons (eV 0) (aCons (eFrz (eLc (iAnyM (eBin ixD (eV 8) (eC (.int (0))))) (gtN 16) tYesM (eBin mulD (eV 2) (eV 16)) [16])) (aCons (eV 10) (aCons (eV 11) aNil)))))))
          (gSeq (sSet 13 (eFrz (eCall F__law_take (aCons (eV 1) (aCons (eFrz (eLc (iAnyM (eBin ixD (eV 8) (eC (.int (1))))) (gtN 16) tYesM (eBin mulD (eV 2) (eV 16)) [16])) (aCons (eV 10) (aCons (eV 11) aNil)))))))
          (gSeq (sIf (op2 neD (eBin ixD (eV 12) (eC (.int (1)))) (eBin ixD (eV 13) (eC (.int (1))))) (sRet (eLst (aCons (eC (.str "apart")) (aCons (eBin addD (eV 9) (eFrz (eLst (aCons (eTup (aCons (eV 10) (aCons (eV 11) aNil))) aNil)))) aNil)))) gNil)
          (gSeq (sSet 14 (eTup (aCons (eFrz (eCall F__law_cut (aCons (eV 0) (aCons (eBin ixD (eV 12) (eC (.int (0)))) (aCons (eV 2) aNil))))) (aCons (eFrz (eCall F__law_cut (aCons (eV 1) (aCons (eBin ixD (eV 13) (eC (.int (0)))) (aCons (eV 2) aNil))))) aNil))))
          (sIf (cInV w true (eBin addD (eBin ixD (eV 14) (eC (.int (0)))) (eBin ixD (eV 14) (eC (.int (1))))) (eV 6)) (gSeq (sSubV w (eV 6) (eBin addD (eBin ixD (eV 14) (eC (.int (0)))) (eBin ixD (eV 14) (eC (.int (1))))) (eC (.bool true)))
            (sExp (eMt appG (eV 5) (aCons (eTup (aCons (eV 14) (aCons (eBin addD (eV 9) (eFrz (eLst (aCons (eTup (aCons (eV 10) (aCons (eV 11) aNil))) aNil)))) aNil))) aNil)))) gNil))))))))))
    (sRet (eLst (aCons (eC (.str "large")) aNil))))))))
def F__law_walk (K : PySem.W.Frag) (w : PySem.World) : List S → M Rv := runG 13 (B__law_walk K w)
def B__law_kind : G :=
    (gSeq (sPar 2 3 (eBin mulD (eV 1) (eBin modD (eFrz (eCallC F__law_draw (aCons (eV 0) aNil))) (eC (.int (5))))) (eBin mulD (eV 1) (eBin modD (eFrz (eCallC F__law_draw (aCons (eV 0) aNil))) (eC (.int (4))))))
    (sRet (eRv (eBin ixD (eFrz (eLst (aCons (eTup (aCons (eC (.str "risk")) (aCons (eV 2) (aCons (eV 3) aNil)))) (aCons (eTup (aCons (eC (.str "event")) (aCons (eV 2) (aCons (eV 3) aNil)))) (aCons (eTup (aCons (eC (.str "year")) (aCons (eV 2) (aCons (eV 3) (aCons (eBin modD (eFrz (eCallC F__law_draw (aCons (eV 0) aNil))) (eC (.int (2)))) (aCons (eC (.int (500))) aNil)))))) (aCons (eTup (aCons (eC (.str "risk")) (aCons (eV 2) (aCons (eV 3) aNil)))) aNil)))))) (eBin modD (eFrz (eCallC F__law_draw (aCons (eV 0) aNil))) (eC (.int (4))))))))
def F__law_kind : List S → M Rv := runG 2 B__law_kind
def B__law_towers : G :=
    (gSeq (sSet 2 (eCd tupleG (aCons (eFrz (eLc (iRng (eBin modD (eFrz (eCallC F__law_draw (aCons (eV 0) aNil))) (eC (.int (4))))) (gtN 7) tYesM (eFrz (eCallC F__law_kind (aCons (eV 0) (aCons (eV 1) aNil)))) [7])) aNil)))
    (gSeq (sSet 3 (eBin modD (eFrz (eCallC F__law_draw (aCons (eV 0) aNil))) (eC (.int (6)))))
    (gSeq (sIf (tOrM (op2 eqD (eV 3) (eC (.int (0)))) (op2 eqD (eCd lenG (aCons (eV 2) aNil)) (eC (.int (0))))) (sRet (eLst (aCons (eV 2) (aCons (eCd tupleG (aCons (eFrz (eLc (iRng (eBin modD (eFrz (eCallC F__law_draw (aCons (eV 0) aNil))) (eC (.int (3))))) (gtN 7) tYesM (eFrz (eCallC F__law_kind (aCons (eV 0) (aCons (eV 1) aNil)))) [7])) aNil)) aNil)))) gNil)
    (gSeq (sSet 4 (eBin modD (eFrz (eCallC F__law_draw (aCons (eV 0) aNil))) (eCd lenG (aCons (eV 2) aNil))))
    (gSeq (sSet 5 (eBin ixD (eV 2) (eV 4)))
    (gSeq (sIf (op2 eqD (eV 3) (eC (.int (1)))) (sRet (eLst (aCons (eV 2) (aCons (eCd revTG (aCons (eV 2) aNil)) aNil)))) gNil)
    (gSeq (sIf (op2 eqD (eV 3) (eC (.int (2)))) (sRet (eLst (aCons (eV 2) (aCons (eBin addD (eBin addD (eSl (eV 2) oNone (oSome (eV 4))) (eSl (eV 2) (oSome (eBin addD (eV 4) (eC (.int (1))))) oNone)) (eTup (aCons (eV 5) aNil))) aNil)))) gNil)
    (gSeq (sIf (tAndM (op2 eqD (eV 3) (eC (.int (3)))) (op2 neD (eBin ixD (eV 5) (eC (.int (0)))) (eC (.str "year")))) (gSeq (sSet 6 (eBin mulD (eBin fdivD (eBin fdivD (eBin ixD (eV 5) (eC (.int (1)))) (eV 1)) (eC (.int (2)))) (eV 1)))
      (sRet (eLst (aCons (eV 2) (aCons (eBin addD (eBin addD (eSl (eV 2) oNone (oSome (eV 4))) (eTup (aCons (eTup (aCons (eBin ixD (eV 5) (eC (.int (0)))) (aCons (eV 6) (aCons (eBin ixD (eV 5) (eC (.int (2)))) aNil)))) (aCons (eTup (aCons (eBin ixD (eV 5) (eC (.int (0)))) (aCons (eBin subD (eBin ixD (eV 5) (eC (.int (1)))) (eV 6)) (aCons (eBin ixD (eV 5) (eC (.int (2)))) aNil)))) aNil)))) (eSl (eV 2) (oSome (eBin addD (eV 4) (eC (.int (1))))) oNone)) aNil))))) gNil)
    (gSeq (sIf (op2 eqD (eV 3) (eC (.int (4)))) (sRet (eLst (aCons (eV 2) (aCons (eBin addD (eBin addD (eSl (eV 2) oNone (oSome (eV 4))) (eBin mulE (eTup (aCons (eTup (aCons (eBin ixD (eV 5) (eC (.int (0)))) (aCons (eC (.int (0))) (aCons (eV 1) aNil)))) aNil)) (eCd intG (aCons (eCmp neD (eBin ixD (eV 5) (eC (.int (0)))) (eC (.str "year"))) aNil)))) (eSl (eV 2) (oSome (eV 4)) oNone)) aNil)))) gNil)
    (sRet (eLst (aCons (eV 2) (aCons (eBin addD (eBin addD (eSl (eV 2) oNone (oSome (eV 4))) (eTup (aCons (eBin addD (eBin addD (eSl (eV 5) oNone (oSome (eC (.int (1))))) (eTup (aCons (eBin addD (eBin ixD (eV 5) (eC (.int (1)))) (eV 1)) aNil))) (eSl (eV 5) (oSome (eC (.int (2)))) oNone)) aNil))) (eSl (eV 2) (oSome (eBin addD (eV 4) (eC (.int (1))))) oNone)) aNil)))))))))))))
def F__law_towers : List S → M Rv := runG 6 B__law_towers
def B__law_amounts : G :=
    (sRet (eRv (eCd tupleG (aCons (eCd sortedSetG (aCons (eFrz (eLc (iRng (eBin addD (eC (.int (1))) (eBin modD (eFrz (eCallC F__law_draw (aCons (eV 0) aNil))) (eC (.int (3)))))) (gtN 2) tYesM (eBin mulD (eV 1) (eBin addD (eC (.int (1))) (eBin modD (eFrz (eCallC F__law_draw (aCons (eV 0) aNil))) (eC (.int (7)))))) [2])) aNil)) aNil))))
def F__law_amounts : List S → M Rv := runG 1 B__law_amounts
def B__law_all_standings (K : PySem.W.Frag) (w : PySem.World) : G :=
    (gSeq (sSet 4 (eTup (aCons (eBin mulE (eTup (aCons (eC (.int (0))) aNil)) (eCd lenG (aCons (eV 0) aNil))) (aCons (eBin mulE (eTup (aCons (eC (.int (0))) aNil)) (eCd lenG (aCons (eV 1) aNil))) aNil))))
    (gSeq (sNew 5 (eLst (aCons (eV 4) aNil)))
    (gSeq (sNew 6 (eDicV w))
    (gSeq (sSubV w (eV 6) (eBin addD (eBin ixD (eV 4) (eC (.int (0)))) (eBin ixD (eV 4) (eC (.int (1))))) (eC (.bool true)))
    (gSeq (sFor (gtN 7) (iRng (eC (.int (4000)))) (gSeq (sIf (op2 eqD (eV 7) (eCd lenG (aCons (eV 5) aNil))) (sRet (eRv (eCd sortedTG (aCons (eFrz (eKeysV w 13 (eV 6))) aNil)))) gNil)
      (sFor (gtN 8) (iAnyM (eV 3)) (sFor (gtN 9) (iAnyM (eTup (aCons (eC (.int (0))) (aCons (eC (.int (1))) aNil)))) (gSeq (sSet 10 (eFrz (eCall F__law_take (aCons (eV 0) (aCons (eFrz (eLc (iAnyM (eBin ixD (eBin ixD (eV 5) (eV 7)) (eC (.int (0))))) (gtN 14) tYesM (eBin mulD (eV 2) (eV 14)) [14])) (aCons (eV 8) (aCons (eV 9) aNil)))))))
          (gSeq (sSet 11 (eFrz (eCall F__law_take (aCons (eV 1) (aCons (eFrz (eLc (iAnyM (eBin ixD (eBin ixD (eV 5) (eV 7)) (eC (.int (1))))) (gtN 14) tYesM (eBin mulD (eV 2) (eV 14)) [14])) (aCons (eV 8) (aCons (eV 9) aNil)))))))
          (gSeq (sSet 12 (eTup (aCons (eFrz (eCall F__law_cut (aCons (eV 0) (aCons (eBin ixD (eV 10) (eC (.int (0)))) (aCons (eV 2) aNil))))) (aCons (eFrz (eCall F__law_cut (aCons (eV 1) (aCons (eBin ixD (eV 11) (eC (.int (0)))) (aCons (eV 2) aNil))))) aNil))))
          (sIf (cInV w true (eBin addD (eBin ixD (eV 12) (eC (.int (0)))) (eBin ixD (eV 12) (eC (.int (1))))) (eV 6)) (gSeq (sSubV w (eV 6) (eBin addD (eBin ixD (eV 12) (eC (.int (0)))) (eBin ixD (eV 12) (eC (.int (1))))) (eC (.bool true)))
            (sExp (eMt appG (eV 5) (aCons (eV 12) aNil)))) gNil))))))))
    (sRet (eRv (eC .none))))))))
def F__law_all_standings (K : PySem.W.Frag) (w : PySem.World) : List S → M Rv := runG 11 (B__law_all_standings K w)
def B__law_spoilt : G :=
    (gSeq (sNew 1 (eOwnL (eV 1)))
    (gSeq (sSet 2 (eBin modD (eFrz (eCallC F__law_draw (aCons (eV 0) aNil))) (eCd lenG (aCons (eV 1) aNil))))
    (gSeq (sSet 3 (eBin modD (eFrz (eCallC F__law_draw (aCons (eV 0) aNil))) (eC (.int (9)))))
    (gSeq (sIf (op2 eqD (eV 3) (eC (.int (0)))) (sRet (eRv (eBin addD (eSl (eV 1) oNone (oSome (eV 2))) (eSl (eV 1) (oSome (eBin addD (eV 2) (eC (.int (1))))) oNone)))) gNil)
    (gSeq (sIf (op2 eqD (eV 3) (eC (.int (1)))) (sRet (eRv (eBin addD (eBin addD (eSl (eV 1) oNone (oSome (eV 2))) (eSl (eV 1) (oSome (eV 2)) (oSome (eBin addD (eV 2) (eC (.int (1))))))) (eSl (eV 1) (oSome (eV 2)) oNone)))) gNil)
    (gSeq (sIf (op2 eqD (eV 3) (eC (.int (2)))) (sRet (eRv (eCd revG (aCons (eV 1) aNil)))) gNil)
    (gSeq (sIf (op2 eqD (eV 3) (eC (.int (3)))) (sRet (eRv (eCd tupleG (aCons (eV 1) aNil)))) gNil)
    (gSeq (sIf (tAndM (op2 eqD (eV 3) (eC (.int (4)))) (op2 gtD (eCd lenG (aCons (eBin ixD (eV 1) (eV 2)) aNil)) (eC (.int (0))))) (sSub (eV 1) (eV 2) (eBin addD (eSl (eBin ixD (eV 1) (eV 2)) oNone (oSome (eNeg (eC (.int (1)))))) (eTup (aCons (eBin addD (eBin ixD (eBin ixD (eV 1) (eV 2)) (eBin subD (eCd lenG (aCons (eBin ixD (eV 1) (eV 2)) aNil)) (eC (.int (1))))) (eC (.int (1)))) aNil)))) gNil)
    (gSeq (sIf (op2 eqD (eV 3) (eC (.int (5)))) (sRet (eRv (eBin ixD (eFrz (eLst (aCons (eC .none) (aCons (eC (.int (5))) (aCons (eFrz (eLst aNil)) (aCons (eFrz (eLst (aCons (eFrz (eLst aNil)) aNil))) (aCons eDicE aNil))))))) (eBin modD (eFrz (eCallC F__law_draw (aCons (eV 0) aNil))) (eC (.int (5))))))) gNil)
    (gSeq (sIf (op2 eqD (eV 3) (eC (.int (6)))) (sSub (eV 1) (eV 2) (eCd listG (aCons (eBin ixD (eV 1) (eV 2)) aNil))) gNil)
    (gSeq (sIf (tAndM (op2 eqD (eV 3) (eC (.int (7)))) (op2 gtD (eCd lenG (aCons (eBin ixD (eV 1) (eV 2)) aNil)) (eC (.int (0))))) (sSub (eV 1) (eV 2) (eBin addD (eTup (aCons (eCd boolG (aCons (eBin ixD (eBin ixD (eV 1) (eV 2)) (eC (.int (0)))) aNil)) aNil)) (eSl (eBin ixD (eV 1) (eV 2)) (oSome (eC (.int (1)))) oNone))) gNil)
    (sRet (eRv (eV 1))))))))))))))
def F__law_spoilt : List S → M Rv := runG 2 B__law_spoilt
def B_law (K : PySem.W.Frag) (w : PySem.World) : G :=
    (gSeq (sNew 1 (eLst (aCons (eFrz (eCall F__law_numbers (aCons (eV 0) aNil))) (aCons (eC (.int (0))) aNil))))
    (gSeq (sFor (gtN 2) (iRng (eC (.int (2)))) (gSeq (sSet 3 (eBin ixD (eFrz (eLst (aCons (eC (.int (1))) (aCons (eC (.int (7))) (aCons (eC (.int (1000))) (aCons (eBin powD (eC (.int (10))) (eC (.int (9)))) aNil)))))) (eBin modD (eFrz (eCallC F__law_draw (aCons (eV 1) aNil))) (eC (.int (4))))))
      (gSeq (sTgt (gtL (gtsCons (gtN 4) (gtsCons (gtN 5) gtsNil))) (eFrz (eCallC F__law_towers (aCons (eV 1) (aCons (eV 3) aNil)))))
      (gSeq (sSet 6 (eFrz (eCallC F__law_amounts (aCons (eV 1) (aCons (eV 3) aNil)))))
      (gSeq (sNew 7 (eCall (F__law_all_standings K w) (aCons (eV 4) (aCons (eV 5) (aCons (eV 3) (aCons (eV 6) aNil))))))
      (gSeq (sIf (op1 isnD (eV 7)) gCon gNil)
      (gSeq (sSet 8 (eCmp eqD (eBin ixD (eFrz (eCall (F__law_walk K w) (aCons (eV 4) (aCons (eV 5) (aCons (eV 3) (aCons (eV 6) aNil)))))) (eC (.int (0)))) (eC (.str "alike"))))
      (gSeq (sIf (tNotM (tT (eFrz (eCall (F__law_equal 40) (aCons (eFrz (eCall (F_is_tower_paper K w) (aCons (eV 4) (aCons (eV 5) (aCons (eV 3) (aCons (eV 6) (aCons (eCd listG (aCons (eV 7) aNil)) aNil))))))) (aCons (eV 8) aNil)))))) (sRet (eRv (eC (.bool false)))) gNil)
      (sFor (gtN 9) (iRng (eC (.int (5)))) (gSeq (sSet 10 (eFrz (eCallA F__law_spoilt (aCons (eV 1) (aCons (eV 7) aNil)))))
        (sIf (tNotM (tT (eFrz (eCall (F__law_equal 40) (aCons (eFrz (eCall (F_is_tower_paper K w) (aCons (eV 4) (aCons (eV 5) (aCons (eV 3) (aCons (eV 6) (aCons (eV 10) aNil))))))) (aCons (eAndM (eV 8) (eFrz (eCallV (F__law_equal 40) (aCons (eV 10) (aCons (eV 7) aNil))))) aNil)))))) (sRet (eRv (eC (.bool false)))) gNil)))))))))))
    (sRet (eRv (eC (.bool true))))))
def F_law (K : PySem.W.Frag) (w : PySem.World) : List S → M Rv := runG 10 (B_law K w)
end
end Law

set_option Elab.async false
set_option linter.all false
set_option pp.maxSteps 600
set_option maxRecDepth 100000
set_option maxHeartbeats 1000000
namespace Law
open PySem L2 Dn
local macro_rules | `(tactic| walk_at "bl") => `(tactic| first | with_reducible rfl | with_reducible assumption | (exact decide_eq_true (by first | with_reducible assumption | omega)) | (exact decide_eq_false (by first | with_reducible assumption | omega)) | (simp only [decide_eq_true_eq, decide_eq_false_iff_not, Bool.not_eq_true', Bool.not_eq_false', Bool.and_eq_true, Bool.or_eq_true, Bool.and_eq_false_iff, Bool.or_eq_false_iff, ne_eq, Decidable.not_not, not_true_eq_false, not_false_eq_true]; first | done | with_reducible assumption | omega) | (simp; done) | (simp; omega))
local macro_rules | `(tactic| walk_at "len") => `(tactic| first | with_reducible assumption | (simp only [List.length_cons, List.length_nil]; omega) | (simp; done) | (simp; omega))
local macro_rules | `(tactic| walk_at "at") => `(tactic| first | with_reducible assumption | with_reducible exact atI0 _ _ | with_reducible exact atI1 _ _ _ | with_reducible exact atI2 _ _ _ _ | with_reducible exact atI3 _ _ _ _ _ | with_reducible exact atI4 _ _ _ _ _ _ | with_reducible exact atI5 _ _ _ _ _ _ _ | with_reducible exact atI6 _ _ _ _ _ _ _ _ | with_reducible exact atI7 _ _ _ _ _ _ _ _ _ | with_reducible exact atI8 _ _ _ _ _ _ _ _ _ _ | with_reducible exact atI9 _ _ _ _ _ _ _ _ _ _ _ | with_reducible exact at_app' _ _ _ | exact rfl | (simp; done))
local macro_rules | `(tactic| walk_at "op") => `(tactic| first
  | with_reducible assumption
  | with_reducible exact p_eqi | with_reducible exact p_nei | with_reducible exact p_eqs | with_reducible exact p_nes
  | with_reducible exact addD_int _ _ | with_reducible exact subD_int _ _ | with_reducible exact ltD_int _ _ | with_reducible exact leD_int _ _ | with_reducible exact gtD_int _ _ | with_reducible exact geD_int _ _
  | with_reducible exact p_min | with_reducible exact p_max | with_reducible exact p_lenl | with_reducible exact p_lent
  | with_reducible exact truD_bool _ | with_reducible exact truD_list _ | with_reducible exact truD_tuple _ | with_reducible exact tupleG_list _ | with_reducible exact tupleG_tuple _ | with_reducible exact listG_list _ | with_reducible exact listG_tuple _
  | ((with_reducible apply p_ixl); walk_at "at") | ((with_reducible apply p_ixt); walk_at "at")
  | ((with_reducible apply p_mod); omega) | (with_reducible apply p_fdiv <;> omega) | (with_reducible apply p_mul <;> omega)
  | ((with_reducible apply p_addt); walk_at "len") | ((with_reducible apply p_addl); walk_at "len")
  | walk_at "opx"
  | exact rfl)
local macro_rules | `(tactic| walk_at "vw") => `(tactic| first | with_reducible exact w_d | ((with_reducible apply w_c); first | with_reducible assumption | exact rfl))
local macro_rules | `(tactic| walk_at "vws") => `(tactic| first | with_reducible exact ws_nil | ((with_reducible apply ws_cons); (· walk_at "vw"); (· walk_at "vws")))
local macro_rules | `(tactic| walk_at "asd") => `(tactic| first | exact asD_nil | ((with_reducible apply a_d); walk_at "asd"))
local macro_rules | `(tactic| walk_at "see") => `(tactic| first | exact seeS_nil | ((with_reducible apply se_d); walk_at "see") | ((with_reducible apply se_c); (· first | with_reducible assumption | exact rfl); walk_at "see"))
local macro_rules | `(tactic| walk_at "call") => `(tactic| with_reducible assumption)
local macro_rules | `(tactic| walk_at "key") => `(tactic| first | with_reducible assumption | with_reducible exact tkD_ints _ | with_reducible exact tkD_app _ _ | (simp; done))
local macro_rules | `(tactic| walk_at "ev") => `(tactic| first
  | with_reducible exact q_nil | with_reducible exact eC_ _ | with_reducible exact q_on | with_reducible exact tYesM_
  | ((with_reducible apply q_v); exact rfl) | ((with_reducible apply q_vc); exact rfl) | ((with_reducible apply q_vf); exact rfl)
  | with_reducible assumption
  | ((with_reducible apply q_cons); (· walk_at "ev"); (· walk_at "ev"))
  | ((with_reducible apply q_bin); (· walk_at "ev"); (· walk_at "ev"); (· walk_at "vw"); (· walk_at "vw"); (· walk_at "op"))
  | ((with_reducible apply q_op2); (· walk_at "ev"); (· walk_at "ev"); (· walk_at "vw"); (· walk_at "vw"); (· walk_at "op"))
  | ((with_reducible apply q_cmp); (· walk_at "ev"); (· walk_at "ev"); (· walk_at "vw"); (· walk_at "vw"); (· walk_at "op"))
  | ((with_reducible apply q_op1); (· walk_at "ev"); (· walk_at "vw"); (· walk_at "op"))
  | ((with_reducible apply q_tT); (· walk_at "ev"); (· walk_at "vw"); (· walk_at "op"))
  | ((with_reducible apply q_eNot); (· walk_at "ev"); (· walk_at "vw"); (· walk_at "op"))
  | ((with_reducible apply q_neg); (· walk_at "ev"); (· walk_at "vw"); (· walk_at "op"))
  | ((with_reducible apply q_isn); (· walk_at "ev"); (· walk_at "vw"); (· walk_at "op"))
  | ((with_reducible apply q_isnn); (· walk_at "ev"); (· walk_at "vw"); (· walk_at "op"))
  | ((with_reducible apply q_isa); (· walk_at "ev"); (· walk_at "vw"); (· first | exact (rfl : _ = true) | exact (rfl : _ = false)))
  | ((with_reducible apply q_not); walk_at "ev")
  | ((with_reducible apply q_and); (· walk_at "ev"); (· walk_at "ev"))
  | ((with_reducible apply q_or); (· walk_at "ev"); (· walk_at "ev"))
  | ((with_reducible apply tAnd_l); walk_at "evb") | ((with_reducible apply tOr_l); walk_at "evb")
  | ((with_reducible apply q_eand); (· walk_at "ev"); (· walk_at "ev"))
  | ((with_reducible apply q_eor); (· walk_at "ev"); (· walk_at "ev"))
  | ((with_reducible apply q_chn); (· walk_at "ev"); (· walk_at "ev"); (· walk_at "ev"); (· walk_at "vw"); (· walk_at "vw"); (· walk_at "vw"); (· walk_at "op"); (· walk_at "op"))
  | ((with_reducible apply q_echn); (· walk_at "ev"); (· walk_at "ev"); (· walk_at "ev"); (· walk_at "vw"); (· walk_at "vw"); (· walk_at "vw"); (· walk_at "op"); (· walk_at "op"))
  | ((with_reducible apply q_tup); (· walk_at "ev"); (· walk_at "asd"); (· walk_at "len"))
  | ((with_reducible apply q_lst); (· walk_at "ev"); (· walk_at "asd"); (· walk_at "len"))
  | ((with_reducible apply q_cd); (· walk_at "ev"); (· walk_at "vws"); (· walk_at "op"))
  | ((with_reducible apply q_os); walk_at "ev")
  | ((with_reducible apply q_sl); (· walk_at "ev"); (· walk_at "ev"); (· walk_at "ev"); (· walk_at "vw"); (· walk_at "op"))
  | ((with_reducible apply q_if1); (· walk_at "evb"); (· walk_at "ev")) | ((with_reducible apply q_if0); (· walk_at "evb"); (· walk_at "ev"))
  | ((with_reducible apply q_fl); walk_at "ev") | ((with_reducible apply q_fd); walk_at "ev") | ((with_reducible apply q_fc); walk_at "ev")
  | ((with_reducible apply q_rd); walk_at "ev") | ((with_reducible apply q_rc); walk_at "ev")
  | ((with_reducible apply q_call_d); (· walk_at "ev"); (· exact rfl); (· walk_at "call")) | ((with_reducible apply q_call_o); (· walk_at "ev"); (· exact rfl); (· walk_at "call"))
  | ((with_reducible apply q_callC); (· walk_at "ev"); (· walk_at "call"))
  | ((with_reducible apply q_callV_o); (· walk_at "ev"); (· walk_at "see"); (· walk_at "call"); (· first | with_reducible rfl | with_reducible assumption | (simp; done))) | ((with_reducible apply q_callV_d); (· walk_at "ev"); (· walk_at "see"); (· walk_at "call"); (· first | with_reducible rfl | with_reducible assumption | (simp; done)))
  | ((with_reducible apply eCp_of); (· walk_at "ev"); (· walk_at "ev"))
  | ((with_reducible apply q_fld); (· walk_at "ev"); (· first | with_reducible assumption | exact rfl); (· first | with_reducible assumption | exact rfl))
  | ((with_reducible apply q_mth); (· walk_at "ev"); (· first | with_reducible assumption | exact rfl); (· first | with_reducible assumption | exact rfl); (· walk_at "ev"); (· walk_at "call"))
  | with_reducible exact q_nilM | with_reducible exact q_dV
  | ((with_reducible apply q_dV1); (· walk_at "ev"); (· walk_at "ev"); (· walk_at "key"))
  | ((with_reducible apply q_inVt); (· walk_at "ev"); (· walk_at "ev"); (· first | with_reducible assumption | exact rfl); (· walk_at "key"); (· with_reducible assumption))
  | ((with_reducible apply q_inVf); (· walk_at "ev"); (· walk_at "ev"); (· first | with_reducible assumption | exact rfl); (· walk_at "key"); (· with_reducible assumption))
  | ((with_reducible apply q_inV); (· walk_at "ev"); (· walk_at "ev"); (· first | with_reducible assumption | exact rfl); (· walk_at "key"))
  | ((with_reducible apply q_keysV); (· walk_at "ev"); (· first | with_reducible assumption | exact rfl); (· walk_at "len"); (· walk_at "len"))
  | ((with_reducible apply q_make); (· walk_at "ev"); (· walk_at "call"); (· exact rfl))
  | ((with_reducible apply q_any); (· walk_at "ev"); (· first | with_reducible exact itD_list _ | with_reducible exact itD_tuple _ | with_reducible assumption))
  | with_reducible exact rl1 | with_reducible exact rl2 | with_reducible exact rl3 | with_reducible exact rl4 | with_reducible exact rl5 | with_reducible exact rl6 | with_reducible exact rl7 | with_reducible exact rl8 | with_reducible exact rl9 | with_reducible exact rl10 | with_reducible exact rl12 | with_reducible exact rl20 | with_reducible exact rl40 | with_reducible exact rl60
  | ((with_reducible apply q_rng); (· walk_at "ev"); (· first | omega | (simp; done) | (simp; omega)))
  | ((with_reducible apply q_rngI); (· walk_at "ev"); (· omega); (· omega)))
local macro_rules | `(tactic| walk_at "evb") => `(tactic| ((with_reducible apply q_cast); (· walk_at "ev"); (· walk_at "bl")))
local macro_rules | `(tactic| walk_at "lset") => `(tactic| first | (simp only [List.set_cons_succ, List.set_cons_zero, List.length_cons, List.length_nil, Nat.zero_add, Nat.reduceAdd]; done) | (simp only [List.set_cons_succ, List.set_cons_zero, List.length_cons, List.length_nil, Nat.zero_add, Nat.reduceAdd]; rfl) | rfl)
local macro_rules | `(tactic| walk_at "tgt") => `(tactic| (simp only [gtN_, gtT_, gtL_list, gtsCons_, gtsNil_, Option.bind_some, List.set_cons_succ, List.set_cons_zero]; try rfl))
local macro_rules | `(tactic| walk_at "sapp") => `(tactic| first | (simp only [List.nil_append, List.cons_append, List.set_cons_succ, List.set_cons_zero]; done) | (simp only [List.nil_append, List.cons_append, List.set_cons_succ, List.set_cons_zero]; rfl) | rfl)
local macro_rules | `(tactic| walk_at "pf1") => `(tactic| first | with_reducible exact pf_nil _ _ | exact rfl)
local macro_rules | `(tactic| walk_at "pf") => `(tactic| ((try simp only [List.length_cons, List.length_nil, Nat.zero_add, Nat.reduceAdd]); walk_at "pf1"))
local macro_rules | `(tactic| walk_at "s1") => `(tactic| first
  | with_reducible exact gNil_ | with_reducible exact gCon_ | with_reducible exact gBrk_
  | with_reducible assumption
  | ((with_reducible apply q_set); (· walk_at "ev"); (· walk_at "lset"))
  | ((with_reducible apply q_newl); (· walk_at "ev"); (· walk_at "lset"); (· walk_at "sapp"))
  | ((with_reducible apply q_newd); (· walk_at "ev"); (· walk_at "lset"))
  | ((with_reducible apply q_app); (· walk_at "ev"); (· walk_at "ev"); (· first | with_reducible assumption | exact rfl); (· first | with_reducible assumption | exact rfl); (· walk_at "len"); (· walk_at "sapp"))
  | ((with_reducible apply q_appX); (· walk_at "ev"); (· first | with_reducible assumption | exact rfl); (· walk_at "ev"); (· first | with_reducible assumption | exact rfl); (· walk_at "len"); (· walk_at "sapp"))
  | ((with_reducible apply q_extX); (· walk_at "ev"); (· first | with_reducible assumption | exact rfl); (· walk_at "ev"); (· first | with_reducible assumption | exact rfl); (· walk_at "len"); (· walk_at "sapp"))
  | ((with_reducible apply q_for); (· walk_at "ev"); (· with_reducible assumption))
  | ((with_reducible apply q_subV); (· walk_at "ev"); (· walk_at "ev"); (· walk_at "ev"); (· first | with_reducible assumption | exact rfl); (· walk_at "key"); (· walk_at "len"); (· first | with_reducible assumption | exact rfl); (· walk_at "sapp"))
  | ((with_reducible apply q_fso); (· walk_at "ev"); (· walk_at "ev"); (· exact rfl); (· walk_at "len"); (· walk_at "pf"); (· walk_at "sapp"))
  | ((with_reducible apply q_fsd); (· walk_at "ev"); (· walk_at "ev"); (· exact rfl); (· walk_at "len"); (· walk_at "pf"); (· walk_at "sapp"))
  | ((with_reducible apply q_exp); walk_at "ev")
  | ((with_reducible apply q_tgt); (· walk_at "ev"); (· walk_at "tgt"))
  | ((with_reducible apply q_par); (· walk_at "ev"); (· walk_at "ev"); (· walk_at "lset"))
  | ((with_reducible apply q_ret); walk_at "ev")
  | ((with_reducible apply q_ifs0); (· walk_at "evb"); (· walk_at "s1")) | ((with_reducible apply q_ifs1); (· walk_at "evb"); (· walk_at "s1"))
  | with_reducible exact sErr_ _
  | ((with_reducible apply seq_rt); walk_at "s1")
  | ((with_reducible apply seq_er); walk_at "s1")
  | ((with_reducible apply seq_ct); walk_at "s1")
  | ((with_reducible apply seq_bk); walk_at "s1")
  | ((with_reducible apply q_seq); (· walk_at "s1"); (· walk_at "s1")))
/-- as far as it goes -/
local macro_rules | `(tactic| walk_at "st") => `(tactic| (repeat ((with_reducible apply q_seq); (· walk_at "s1"))))
local macro_rules | `(tactic| walk_at "eq") => `(tactic| first | with_reducible rfl | rfl | (simp only [List.nil_append, List.cons_append, List.append_nil, List.map_cons, List.map_nil, List.map_append, List.set_cons_succ, List.set_cons_zero]; done) | (simp; done))
local macro_rules | `(tactic| walk_at "end") => `(tactic| first
  | ((with_reducible apply q_fin); (· walk_at "s1"); (· walk_at "eq"); (· walk_at "eq"))
  | ((with_reducible apply q_finr); (· walk_at "s1"); (· walk_at "eq"); (· walk_at "eq"))
  | ((with_reducible apply q_val); (· walk_at "ev"); (· walk_at "eq"); (· walk_at "eq")))
local macro_rules | `(tactic| walk_at "rep") => `(tactic| first | ((simp only [List.cons_append, List.nil_append, List.replicate_succ, List.replicate_zero, List.append_nil]); done) | ((simp only [List.cons_append, List.nil_append, List.replicate_succ, List.replicate_zero, List.append_nil]); rfl) | rfl)
theorem mulD_lt {x y : Int} (hx : x.natAbs < 2 ^ 250) (hy : y.natAbs < 2 ^ 250) : mulD (.int x) (.int y) = some (.int (x * y)) := by
  have h1 := log2_lt (x := x) (k := 250) (by omega) hx
  have h2 := log2_lt (x := y) (k := 250) (by omega) hy
  rw [mulD_int, if_pos (by omega)]
theorem fdivD_lt {x y : Int} (hy : 0 < y) (hy2 : y.natAbs < 2 ^ 250) : fdivD (.int x) (.int y) = some (.int (x / y)) := by
  have h2 := log2_lt (x := y) (k := 250) (by omega) hy2
  rw [fdivD_int, if_pos ⟨hy, by omega⟩]
def mx (n k : Int) : Int := ((n * 48271 + k * 69621 + 12345) % 2147483647 * ((n * 48271 + k * 69621 + 12345) % 2147483647 / 65536 + 3) + k) % 2147483647
theorem mx_lo (n k : Int) : 0 ≤ mx n k := Int.emod_nonneg _ (by decide)
theorem mx_hi (n k : Int) : mx n k < 2147483647 := Int.emod_lt_of_pos _ (by decide)
theorem mixed_ {n k : Int} (hn : n.natAbs < 2 ^ 64) (hk : k.natAbs < 2 ^ 64) : F__law_mixed [.d (.int n), .d (.int k)] [] = .ok (.d (.int (mx n k))) [] := by
  have h1 : mulD (.int n) (.int 48271) = some (.int (n * 48271)) := mulD_lt (Nat.lt_trans hn (by decide)) (by decide)
  have h2 : mulD (.int k) (.int 69621) = some (.int (k * 69621)) := mulD_lt (Nat.lt_trans hk (by decide)) (by decide)
  have h3 : ∀ x : Int, fdivD (.int x) (.int 65536) = some (.int (x / 65536)) := fun x => fdivD_lt (by decide) (by decide)
  have h4 : ∀ x y : Int, x.natAbs < 2 ^ 32 → y.natAbs < 2 ^ 32 → mulD (.int x) (.int y) = some (.int (x * y)) := fun x y hx hy => mulD_lt (Nat.lt_trans hx (by decide)) (Nat.lt_trans hy (by decide))
  have h5 : mulD (.int ((n * 48271 + k * 69621 + 12345) % 2147483647)) (.int ((n * 48271 + k * 69621 + 12345) % 2147483647 / 65536 + 3)) = some (.int ((n * 48271 + k * 69621 + 12345) % 2147483647 * ((n * 48271 + k * 69621 + 12345) % 2147483647 / 65536 + 3))) := by
    generalize n * 48271 + k * 69621 + 12345 = z
    have a1 : 0 ≤ z % 2147483647 := Int.emod_nonneg _ (by decide)
    have a2 : z % 2147483647 < 2147483647 := Int.emod_lt_of_pos _ (by decide)
    exact h4 _ _ (by omega) (by omega)
  simp only [F__law_mixed, B__law_mixed, mx]
  simp [h1, h2, h3, h5, -mulD_int, -fdivD_int]
/-- numbers of the law -/
def InR (l : List Int) : Prop := ∀ x ∈ l, 0 ≤ x ∧ x < 1000000
theorem inR_app {l : List Int} {x : Int} (h : InR l) (h1 : 0 ≤ x) (h2 : x < 1000000) : InR (l ++ [x]) := by
  intro y hy
  rcases List.mem_append.1 hy with hy | hy
  · exact h y hy
  · rw [List.mem_singleton.1 hy]; exact ⟨h1, h2⟩
theorem rngD_map (n : Nat) : ∀ (i : Int), rngD i n = ((List.range n).map fun (k : Nat) => i + (k : Int)).map .int := by
  intro i
  simp [rngD]
theorem num_in1 (x a b : S) : ∀ (js : List Int) (rest : Int) (acc : List Int) (c : S), InR acc → acc.length + js.length ≤ 10000 → ∃ acc' rest' c', gFor (gtN 4) (sIf (op2 gtD (eV 3) (eC (.int (0)))) (gSeq (sExp (eMt appG (eV 1) (aCons (eBin modD (eV 3) (eC (.int (1000000)))) aNil)))
            (sSet 3 (eBin fdivD (eV 3) (eC (.int (1000000)))))) gNil) (js.map .int) [x, .cel 0, a, .d (.int rest), c] [.lst (acc.map .int)] = .nx [x, .cel 0, a, .d (.int rest'), c'] [.lst (acc'.map .int)] ∧ InR acc' ∧ acc'.length ≤ acc.length + js.length
  | [], rest, acc, c, h1, h2 => ⟨acc, rest, c, by simp, h1, by simp⟩
  | j :: js, rest, acc, c, h1, h2 => by
    simp at h2
    have h3 : ∀ x : Int, fdivD (.int x) (.int 1000000) = some (.int (x / 1000000)) := fun x => fdivD_lt (by decide) (by decide)
    rw [List.map_cons, gFor_cons]
    by_cases hc : 0 < rest
    · obtain ⟨acc', rest', c', e, e1, e2⟩ := num_in1 x a b js (rest / 1000000) (acc ++ [rest % 1000000]) (.d (.int j)) (inR_app h1 (by omega) (by omega)) (by simp; omega)
      refine ⟨acc', rest', c', ?_, e1, by simp at e2 ⊢; omega⟩
      have l1 : acc.length < sizeLine := size_lt (by omega)
      have l2 : acc.length ≤ sizeLine := size_ok (by omega)
      simp at e
      simp [hc, h3, l1, l2, e, -fdivD_int]
    · obtain ⟨acc', rest', c', e, e1, e2⟩ := num_in1 x a b js rest acc (.d (.int j)) h1 (by omega)
      refine ⟨acc', rest', c', ?_, e1, by simp; omega⟩
      simp [hc, e]
theorem num_in2 (x b : S) (v : Int) : ∀ (js : List Int) (acc : List Int) (c : S), (∀ j ∈ js, 0 ≤ j ∧ j ≤ 10) → InR acc → acc.length + js.length ≤ 10000 → ∃ acc' c', gFor (gtN 4) (sExp (eMt appG (eV 1) (aCons (eBin modD (eFrz (eCall F__law_mixed (aCons (eFrz (eCall F__law_mixed (aCons (eBin modD (eV 2) (eC (.int (2147483647)))) (aCons (eV 4) aNil)))) (aCons (eBin addD (eV 4) (eC (.int (7)))) aNil)))) (eC (.int (1000000)))) aNil))) (js.map .int) [x, .cel 0, .d (.int v), b, c] [.lst (acc.map .int)] = .nx [x, .cel 0, .d (.int v), b, c'] [.lst (acc'.map .int)] ∧ InR acc' ∧ acc'.length ≤ acc.length + js.length
  | [], acc, c, h0, h1, h2 => ⟨acc, c, by simp, h1, by simp⟩
  | j :: js, acc, c, h0, h1, h2 => by
    simp at h2
    rw [List.map_cons, gFor_cons]
    have hj := h0 j (by simp)
    have a1 : 0 ≤ v % 2147483647 := Int.emod_nonneg _ (by decide)
    have a2 : v % 2147483647 < 2147483647 := Int.emod_lt_of_pos _ (by decide)
    have m1 := mixed_ (n := v % 2147483647) (k := j) (by omega) (by omega)
    have b1 := mx_lo (v % 2147483647) j
    have b2 := mx_hi (v % 2147483647) j
    have m2 := mixed_ (n := mx (v % 2147483647) j) (k := j + 7) (by omega) (by omega)
    obtain ⟨acc', c', e, e1, e2⟩ := num_in2 x b v js (acc ++ [mx (mx (v % 2147483647) j) (j + 7) % 1000000]) (.d (.int j)) (fun k hk => h0 k (by simp [hk])) (inR_app h1 (by omega) (by omega)) (by simp; omega)
    refine ⟨acc', c', ?_, e1, by simp at e2 ⊢; omega⟩
    have l1 : acc.length < sizeLine := size_lt (by omega)
    have l2 : acc.length ≤ sizeLine := size_ok (by omega)
    simp at e
    simp [m1, m2, l1, l2, e]
theorem num_out (x : S) : ∀ (ns : List Int) (acc : List Int) (a b c : S), InR acc → acc.length + 60 * ns.length ≤ 10000 → ∃ acc' a' b' c', gFor (gtN 2) (sIf (op2 geD (eV 2) (eBin powD (eC (.int (10))) (eC (.int (18))))) (gSeq (sSet 3 (eV 2))
        (sFor (gtN 4) (iRng (eC (.int (60)))) (sIf (op2 gtD (eV 3) (eC (.int (0)))) (gSeq (sExp (eMt appG (eV 1) (aCons (eBin modD (eV 3) (eC (.int (1000000)))) aNil)))
            (sSet 3 (eBin fdivD (eV 3) (eC (.int (1000000)))))) gNil))) (gSeq (sExp (eMt appG (eV 1) (aCons (eBin modD (eV 2) (eC (.int (1000000)))) aNil)))
        (sFor (gtN 4) (iRng (eC (.int (5)))) (sExp (eMt appG (eV 1) (aCons (eBin modD (eFrz (eCall F__law_mixed (aCons (eFrz (eCall F__law_mixed (aCons (eBin modD (eV 2) (eC (.int (2147483647)))) (aCons (eV 4) aNil)))) (aCons (eBin addD (eV 4) (eC (.int (7)))) aNil)))) (eC (.int (1000000)))) aNil)))))) (ns.map .int) [x, .cel 0, a, b, c] [.lst (acc.map .int)] = .nx [x, .cel 0, a', b', c'] [.lst (acc'.map .int)] ∧ InR acc' ∧ acc'.length ≤ acc.length + 60 * ns.length
  | [], acc, a, b, c, h1, h2 => ⟨acc, a, b, c, by simp, h1, by simp⟩
  | v :: ns, acc, a, b, c, h1, h2 => by
    simp at h2
    rw [List.map_cons, gFor_cons]
    by_cases hc : (1000000000000000000 : Int) ≤ v
    · obtain ⟨acc1, rest1, c1, e, e1, e2⟩ := num_in1 x (.d (.int v)) b ((List.range 60).map fun (k : Nat) => 0 + (k : Int)) v acc c h1 (by simp; omega)
      rw [← rngD_map] at e
      obtain ⟨acc', a', b', c', f, f1, f2⟩ := num_out x ns acc1 (.d (.int v)) (.d (.int rest1)) c1 e1 (by simp at e2; omega)
      refine ⟨acc', a', b', c', ?_, f1, by simp at e2 ⊢; omega⟩
      simp [hc, e, f]
    · have l1 : acc.length < sizeLine := size_lt (by omega)
      have l2 : acc.length ≤ sizeLine := size_ok (by omega)
      obtain ⟨acc1, c1, e, e1, e2⟩ := num_in2 x b v ((List.range 5).map fun (k : Nat) => 0 + (k : Int)) (acc ++ [v % 1000000]) c (by intro j hj; simp at hj; omega) (inR_app h1 (by omega) (by omega)) (by simp; omega)
      rw [← rngD_map] at e
      obtain ⟨acc', a', b', c', f, f1, f2⟩ := num_out x ns acc1 (.d (.int v)) b c1 e1 (by simp at e2; omega)
      refine ⟨acc', a', b', c', ?_, f1, by simp at e2 ⊢; omega⟩
      simp at e
      simp [hc, l1, l2, e, f]
theorem numbers_ (ns : List Int) (h : ns.length ≤ 100) : ∃ nums, F__law_numbers [.d (.list (ns.map .int))] [] = .ok (.own (.lst (nums.map .int))) [] ∧ InR nums ∧ nums.length ≤ 6000 := by
  obtain ⟨acc', a', b', c', f, f1, f2⟩ := num_out (.d (.list (ns.map .int))) ns [] .no .no .no (by intro x hx; cases hx) (by simp; omega)
  refine ⟨acc', ?_, f1, by simp at f2; omega⟩
  simp at f
  simp [F__law_numbers, B__law_numbers, f, fin_cel]
theorem gdI {l : List Int} {k : Nat} {d : Int} (h : k < l.length) : l.getD k d = l[k] := by
  simp [List.getD_eq_getElem?_getD, h]
/-- the draws, with further cells behind -/
def DSc (nums : List Int) (k : Nat) (c : Store) : Store := .lst [.list (nums.map .int), .int k] :: c
abbrev DS (nums : List Int) (k : Nat) : Store := DSc nums k []
def dr (nums : List Int) (k : Nat) : Int := if k < nums.length then nums.getD k 0 else mx (mx (if 0 < nums.length then 1 + (k : Int) + 1009 * nums.getD 0 0 else 1 + (k : Int)) k) 5 % 1000000
theorem draw_ {nums : List Int} {k : Nat} (h : InR nums) (hk : k < 1000000000000) : F__law_draw [.cel 0] (DS nums k) = .ok (.d (.int (dr nums k))) (DS nums (k + 1)) := by
  have i1 : ixN 2 1 = some 1 := rfl
  by_cases c : k < nums.length
  · have c1 : (k : Int) < nums.length := by omega
    have e1 : atI (nums.map PyData.int) (k : Int) = some (.int (dr nums k)) := by
      refine atI_of rfl ?_
      unfold dr
      rw [if_pos c, gdI c]
      simp [c]
    simp [F__law_draw, B__law_draw, DSc, i1, c1, e1]
  · have c1 : ¬ (k : Int) < nums.length := by omega
    by_cases c2 : 0 < nums.length
    · have c3 : 0 < (nums.length : Int) := by omega
      have c4 : nums.getD 0 0 = nums[0] := by rw [gdI c2]
      have c5 := h nums[0] (List.getElem_mem c2)
      have e1 : atI (nums.map PyData.int) (0 : Int) = some (.int (nums.getD 0 0)) := by
        refine atI_of (n := 0) rfl ?_
        rw [c4]
        simp [c2]
      have e2 : mulD (.int 1009) (.int (nums.getD 0 0)) = some (.int (1009 * nums.getD 0 0)) := mulD_lt (by decide) (Nat.lt_trans (m := 1000000) (by rw [c4]; omega) (by decide))
      have m1 := mixed_ (n := 1 + (k : Int) + 1009 * nums.getD 0 0) (k := k) (by rw [c4]; omega) (by omega)
      have b1 := mx_lo (1 + (k : Int) + 1009 * nums.getD 0 0) k
      have b2 := mx_hi (1 + (k : Int) + 1009 * nums.getD 0 0) k
      have m2 := mixed_ (n := mx (1 + (k : Int) + 1009 * nums.getD 0 0) k) (k := 5) (by omega) (by decide)
      have d1 : dr nums k = mx (mx (1 + (k : Int) + 1009 * nums.getD 0 0) k) 5 % 1000000 := by
        unfold dr; rw [if_neg c, if_pos c2]
      generalize nums.getD 0 0 = z at e1 e2 m1 m2 d1
      simp [F__law_draw, B__law_draw, DSc, i1, c1, c2, e1, e2, m1, m2, d1, -mulD_int]
    · have c3 : nums = [] := by
        cases nums with
        | nil => rfl
        | cons x l => simp at c2
      subst c3
      have m1 := mixed_ (n := 1 + (k : Int)) (k := k) (by omega) (by omega)
      have b1 := mx_lo (1 + (k : Int)) k
      have b2 := mx_hi (1 + (k : Int)) k
      have m2 := mixed_ (n := mx (1 + (k : Int)) k) (k := 5) (by omega) (by decide)
      have c1 : ¬ (k : Int) < 0 := by omega
      simp [F__law_draw, B__law_draw, DSc, i1, c1, m1, m2, dr]
section
variable {nums : List Int} {k k' : Nat} {c : Store}
@[simp] theorem DSc_len : (DSc nums k c).length = c.length + 1 := rfl
@[simp] theorem DSc_okc (n : Nat) : okc (n + 1) (DSc nums k c) = okc n c := rfl
@[simp] theorem DSc_okc1 : okc 1 (DSc nums k c) = true := rfl
@[simp] theorem DSc_take (n : Nat) : (DSc nums k c).take (n + 1) = DSc nums k (c.take n) := rfl
@[simp] theorem DSc_take1 : (DSc nums k c).take 1 = DSc nums k [] := rfl
@[simp] theorem DSc_app (o : Store) : DSc nums k c ++ o = DSc nums k (c ++ o) := rfl
@[simp] theorem DSc_get (n : Nat) : (DSc nums k c)[n + 1]? = c[n]? := rfl
@[simp] theorem DSc_get1 : (DSc nums k c)[1]? = c[0]? := rfl
@[simp] theorem DSc_get2 : (DSc nums k c)[2]? = c[1]? := rfl
@[simp] theorem DSc_set (n : Nat) (o : OC) : (DSc nums k c).set (n + 1) o = DSc nums k (c.set n o) := rfl
@[simp] theorem DSc_set1 (o : OC) : (DSc nums k c).set 1 o = DSc nums k (c.set 0 o) := rfl
@[simp] theorem DSc_cel1 (xs : List D) (r : Store) : celM (.cel 1) (DSc nums k (.lst xs :: r)) = .ok (1, xs) (DSc nums k (.lst xs :: r)) := rfl
@[simp] theorem DSc_vws1 (xs : List D) (r : Store) : vwsM [.cel 1] (DSc nums k (.lst xs :: r)) = .ok [.list xs] (DSc nums k (.lst xs :: r)) := by
  rw [vwsM_cel [] (xs := xs) rfl]; rfl
theorem callC_DS {F : List S → M Rv} {r : List S} {x : D} (hr : noCel r = true) (e : F (.cel 0 :: r) (DSc nums k []) = .ok (.d x) (DSc nums k' [])) : callC F (.cel 0 :: r) (DSc nums k c) = .ok (.d x) (DSc nums k' c) := by
  simp only [DSc] at e ⊢
  simp [hr, e]
theorem callC_DSo {F : List S → M Rv} {r : List S} {x : OC} (hr : noCel r = true) (e : F (.cel 0 :: r) (DSc nums k []) = .ok (.own x) (DSc nums k' [])) : callC F (.cel 0 :: r) (DSc nums k c) = .ok (.own x) (DSc nums k' c) := by
  simp only [DSc] at e ⊢
  simp [hr, e]
theorem drc (h : InR nums) (hk : k < 1000000000000) (k' : Nat) (e : k' = k + 1) : callC F__law_draw [.cel 0] (DSc nums k c) = .ok (.d (.int (dr nums k))) (DSc nums k' c) := by
  subst e; exact callC_DS rfl (draw_ h hk)
end
theorem atI_mod {xs : List D} {P : D → Prop} (v : Int) (n : Int) (hn : n = (xs.length : Int)) (h0 : 0 < xs.length) (h : ∀ x ∈ xs, P x) : ∃ x, P x ∧ atI xs (v % n) = some x := by
  subst hn
  have a1 : 0 ≤ v % (xs.length : Int) := Int.emod_nonneg _ (by omega)
  have a2 : v % (xs.length : Int) < xs.length := Int.emod_lt_of_pos _ (by omega)
  have a3 : (v % (xs.length : Int)).toNat < xs.length := by omega
  refine ⟨xs[(v % (xs.length : Int)).toNat], h _ (List.getElem_mem a3), ?_⟩
  exact atI_of (n := (v % (xs.length : Int)).toNat) (by omega) (by simp [a3])
mutual
def dAll (p : Str → Bool) : D → Bool
  | .str x => p x
  | .list xs => dAlls p xs
  | .tuple xs => dAlls p xs
  | .dict _ => false
  | _ => true
def dAlls (p : Str → Bool) : List D → Bool
  | [] => true
  | x :: xs => dAll p x && dAlls p xs
end
theorem dAlls_iff {p : Str → Bool} : ∀ {xs : List D}, dAlls p xs = true ↔ ∀ x ∈ xs, dAll p x = true
  | [] => by simp [dAlls]
  | x :: xs => by simp [dAlls, dAlls_iff (xs := xs)]
def txOk (x : Str) : Bool := decide (x.length ≤ 1000) && PyData.strOk x
/-- plain data: short texts, not deep, no dict -/
structure Sane (p : Str → Bool) (d : D) : Prop where
  a : dAll (fun x => txOk x && p x) d = true
  d : d.depth ≤ 60
mutual
theorem lay_of {p : Str → Bool} : ∀ d : D, dAll (fun x => txOk x && p x) d = true → d.canLay0 = true
  | .none, _ => by simp [PyData.canLay0]
  | .bool _, _ => by simp [PyData.canLay0]
  | .int _, _ => by simp [PyData.canLay0]
  | .str x, h => by simp [dAll, txOk] at h; simp [PyData.canLay0, h]
  | .list xs, h => by simp only [PyData.canLay0]; exact lays_of xs (by simpa [dAll] using h)
  | .tuple xs, h => by simp only [PyData.canLay0]; exact lays_of xs (by simpa [dAll] using h)
  | .dict _, h => by simp [dAll] at h
theorem lays_of {p : Str → Bool} : ∀ xs : List D, dAlls (fun x => txOk x && p x) xs = true → PyData.canLayAll0 xs = true
  | [], _ => by simp [PyData.canLayAll0]
  | x :: xs, h => by
    simp only [dAlls, Bool.and_eq_true] at h
    simp only [PyData.canLayAll0, Bool.and_eq_true]
    exact ⟨lay_of x h.1, lays_of xs h.2⟩
end
theorem dep_mem : ∀ {xs : List D} {x : D}, x ∈ xs → x.depth ≤ PyData.depthAll xs
  | y :: ys, x, h => by
    simp only [PyData.depthAll]
    rcases List.mem_cons.1 h with h | h
    · subst h; exact Nat.le_max_left _ _
    · exact Nat.le_trans (dep_mem h) (Nat.le_max_right _ _)
theorem dep_le {n : Nat} : ∀ {xs : List D}, (∀ x ∈ xs, x.depth ≤ n) → PyData.depthAll xs ≤ n
  | [], _ => by simp [PyData.depthAll]
  | y :: ys, h => by
    simp only [PyData.depthAll]
    exact Nat.max_le.2 ⟨h y (by simp), dep_le fun x hx => h x (by simp [hx])⟩
section
variable {p : Str → Bool} {d x : D} {xs ys : List D}
theorem Sane.sh (h : Sane p d) : SeqAt.shaped d = true := by
  have := h.d
  simp [SeqAt.shaped, lay_of d h.a]; omega
theorem Sane.mem (h : Sane p (.tuple xs)) (m : x ∈ xs) : Sane p x := by
  have a := h.a
  have b := h.d
  simp only [dAll] at a
  simp only [PyData.depth] at b
  have := dep_mem m
  exact ⟨dAlls_iff.1 a x m, by omega⟩
theorem sane_of {n : Nat} (hn : n + 1 ≤ 60) (h : ∀ x ∈ xs, Sane p x ∧ x.depth ≤ n) : Sane p (.tuple xs) ∧ Sane p (.list xs) := by
  have a : dAlls (fun x => txOk x && p x) xs = true := dAlls_iff.2 fun x hx => (h x hx).1.a
  have b := dep_le fun x hx => (h x hx).2
  exact ⟨⟨by simpa only [dAll] using a, by simp only [PyData.depth]; omega⟩, ⟨by simpa only [dAll] using a, by simp only [PyData.depth]; omega⟩⟩
theorem Sane.sub (h : Sane p (.tuple xs)) (m : ∀ x ∈ ys, x ∈ xs) : Sane p (.tuple ys) ∧ Sane p (.list ys) := by
  have b := h.d
  simp only [PyData.depth] at b
  exact sane_of (n := PyData.depthAll xs) (by omega) fun x hx => ⟨h.mem (m x hx), dep_mem (m x hx)⟩
theorem Sane.str {x : Str} (h : Sane p (.str x)) : x.length ≤ 1000 ∧ PyData.strOk x = true ∧ p x = true := by
  have a := h.a
  simp [dAll, txOk] at a
  exact ⟨a.1.1, a.1.2, a.2⟩
theorem Sane.int {i : Int} : Sane p (.int i) := ⟨by simp [dAll], by simp [PyData.depth]⟩
theorem Sane.none : Sane p .none := ⟨by simp [dAll], by simp [PyData.depth]⟩
theorem Sane.bool {b : Bool} : Sane p (.bool b) := ⟨by simp [dAll], by simp [PyData.depth]⟩
theorem eq_nil (h : SeqAt.shaped (.list xs) = true) : eqD (.list xs) (.list []) = some xs.isEmpty := by
  rw [eqD_sh h (by decide)]
  cases xs <;> simp [PyData.eqv, PyData.eqvAll]
end
def isNum (d : D) (a b : Int) : Bool := match d with
  | .int x => decide (a ≤ x) && decide (x ≤ b)
  | _ => false
theorem is_number_ (d : D) (a b : Int) : F_is_number [.d d, .d (.int a), .d (.int b)] [] = .ok (.d (.bool (isNum d a b))) [] := by
  cases d with
  | int x =>
    simp [F_is_number, B_is_number, isNum]
    by_cases h : a ≤ x <;> simp [h]
  | _ => simp [F_is_number, B_is_number, isaD, isNum]
def lets : List Nat := ("abcdefghijklmnopqrstuvwxyz" : Str).cps.toList
theorem ix_str {x : Str} {c : Nat} {r : List Nat} (h : x.cps.toList = c :: r) (hl : x.length ≤ 1000) : ixD (.str x) (.int 0) = some (chD c) := by
  show (if x.length ≤ sizeLine then (atI x.cps.toList 0).map fun c => PyData.str ⟨#[c]⟩ else none) = _
  rw [if_pos (size_ok (by omega)), h, atI0]; rfl
/-- a tuple of so many -/
def isTup (d : D) (a b : Int) : Bool := match d with
  | .tuple xs => decide (a ≤ (xs.length : Int)) && decide ((xs.length : Int) ≤ b)
  | _ => false
theorem is_tuple_ (d : D) (a b : Int) : F_is_tuple [.d d, .d (.int a), .d (.int b)] [] = .ok (.d (.bool (isTup d a b))) [] := by
  cases d with
  | tuple xs =>
    simp [F_is_tuple, B_is_tuple, isTup]
    by_cases h : a ≤ (xs.length : Int) <;> simp [h]
  | _ => simp [F_is_tuple, B_is_tuple, isaD, isTup]
theorem eV_ofP {ρ : List S} {cs : Store} {i : Nat} {x : D} (h : ρ[i]? = some (.d x)) : eV i ρ cs = .ok (.d x) cs := by simp [h]
theorem eV_cel {ρ : List S} {cs : Store} {i j : Nat} (h : ρ[i]? = some (.cel j)) : eV i ρ cs = .ok (.cel j) cs := by simp [h]
theorem bin_of {g : D → D → Option D} {fa fb : List S → M S} {ρ : List S} {cs cs1 cs2 : Store} {x y z : D} (h1 : fa ρ cs = .ok (.d x) cs1) (h2 : fb ρ cs1 = .ok (.d y) cs2) (hg : g x y = some z) : eBin g fa fb ρ cs = .ok (.d z) cs2 := by
  show bnd (op2 g fa fb ρ) (fun d => ret (S.d d)) cs = _
  rw [bnd_ok (show op2 g fa fb ρ cs = .ok z cs2 by
    rw [op2_, bnd_ok h1, bnd_ok h2, bnd_ok (show vwM (.d x) cs2 = .ok x cs2 from rfl), bnd_ok (show vwM (.d y) cs2 = .ok y cs2 from rfl), hg]; rfl)]
  rfl
theorem op2_of {β : Type} {g : D → D → Option β} {fa fb : List S → M S} {ρ : List S} {cs cs1 cs2 : Store} {x y : D} {z : β} (h1 : fa ρ cs = .ok (.d x) cs1) (h2 : fb ρ cs1 = .ok (.d y) cs2) (hg : g x y = some z) : op2 g fa fb ρ cs = .ok z cs2 := by
  rw [op2_, bnd_ok h1, bnd_ok h2, bnd_ok (show vwM (.d x) cs2 = .ok x cs2 from rfl), bnd_ok (show vwM (.d y) cs2 = .ok y cs2 from rfl), hg]; rfl
theorem app_cel {ρ : List S} {cs cs1 : Store} {i j : Nat} {xs : List D} {x : D} {fe : List S → M S} (he : fe ρ cs = .ok (.d x) cs1) (h : ρ[i]? = some (.cel j)) (h0 : cs[j]? = some (.lst xs)) (hc : cs1[j]? = some (.lst xs)) (hl : xs.length < 1000000) : sExp (eMt appG (eV i) (aCons fe aNil)) ρ cs = .nx ρ (cs1.set j (.lst (xs ++ [x]))) := by
  have c0 : celM (.cel j) cs = .ok (j, xs) cs := by unfold celM; simp only [h0]
  have c : celM (.cel j) cs1 = .ok (j, xs) cs1 := by unfold celM; simp only [hc]
  have l1 : xs.length < sizeLine := size_lt (by omega)
  have l2 : xs.length ≤ sizeLine := size_ok (by omega)
  refine sExp_of (v := .d .none) ?_
  rw [eMt_, bnd_ok (eV_cel h), bnd_ok c0, bnd_ok (aCons_of (ga := aNil) he rfl), fin__, bnd_ok c, bnd_ok (show ofO (asD [S.d x]) cs1 = .ok [x] cs1 from rfl), if_pos l2, appG_, if_pos l1]
  rfl
theorem eLst_ofP {g : List S → M (List S)} {ρ ss : List S} {cs cs' : Store} {xs : List D} (h1 : g ρ cs = .ok ss cs') (h2 : asD ss = some xs) (hl : xs.length < 1000) : eLst g ρ cs = .ok (.own (.lst xs)) cs' := by
  rw [eLst_, bnd_ok h1, bnd_ok (show ofO (asD ss) cs' = .ok xs cs' by rw [h2]; rfl), if_pos (size_ok (by omega))]
  rfl
theorem eTup_ofP {g : List S → M (List S)} {ρ ss : List S} {cs cs' : Store} {xs : List D} (h1 : g ρ cs = .ok ss cs') (h2 : asD ss = some xs) (hl : xs.length < 1000) : eTup g ρ cs = .ok (.d (.tuple xs)) cs' := by
  rw [eTup_, bnd_ok h1, bnd_ok (show ofO (asD ss) cs' = .ok xs cs' by rw [h2]; rfl)]
  first | rfl | (rw [if_pos (size_ok (by omega))]; rfl)
theorem eCd1 {g : List D → Option D} {fe : List S → M S} {ρ : List S} {cs cs' : Store} {x y : D} (h : fe ρ cs = .ok (.d x) cs') (hg : g [x] = some y) : eCd g (aCons fe aNil) ρ cs = .ok (.d y) cs' := by
  rw [eCd_, bnd_ok (aCons_of (ga := aNil) h rfl)]
  simp [hg]
theorem eCd2 {g : List D → Option D} {fa fb : List S → M S} {ρ : List S} {cs cs1 cs2 : Store} {x y z : D} (h1 : fa ρ cs = .ok (.d x) cs1) (h2 : fb ρ cs1 = .ok (.d y) cs2) (hg : g [x, y] = some z) : eCd g (aCons fa (aCons fb aNil)) ρ cs = .ok (.d z) cs2 := by
  rw [eCd_, bnd_ok (aCons_of (ga := aCons fb aNil) h1 (aCons_of (ga := aNil) h2 rfl))]
  simp [hg]
theorem aLast {fe : List S → M S} {ρ : List S} {cs cs' : Store} {v : S} (h : fe ρ cs = .ok v cs') : aCons fe aNil ρ cs = .ok [v] cs' := aCons_of (ga := aNil) h rfl
@[simp] theorem isNum_i (x a b : Int) : isNum (.int x) a b = (decide (a ≤ x) && decide (x ≤ b)) := rfl
@[simp] theorem isNum_t (x : List D) (a b : Int) : isNum (.tuple x) a b = false := rfl
@[simp] theorem isNum_l (x : List D) (a b : Int) : isNum (.list x) a b = false := rfl
@[simp] theorem isNum_s (x : Str) (a b : Int) : isNum (.str x) a b = false := rfl
@[simp] theorem isNum_n (a b : Int) : isNum .none a b = false := rfl
@[simp] theorem isNum_b (x : Bool) (a b : Int) : isNum (.bool x) a b = false := rfl
theorem intsD_map {α : Type} (v : α → Int) : ∀ xs : List α, intsD (xs.map fun x => .int (v x)) = some (xs.map v)
  | [] => rfl
  | x :: xs => by
    show (intsD (xs.map fun x => .int (v x))).map (v x :: ·) = _
    rw [intsD_map v xs]; rfl
theorem for_same {i : Nat} {body : G} {cs : Store} : ∀ (xs : List D) (ρ : List S), (∀ x ∈ xs, body (ρ.set i (.d x)) cs = .nx (ρ.set i (.d x)) cs) → ∃ s, gFor (gtN i) body xs ρ cs = .nx (ρ.set i s) cs
  | [], ρ, _ => by
    refine ⟨ρ.getD i .no, ?_⟩
    rw [for_nil]
    congr 1
    apply List.ext_getElem?
    intro j
    rw [List.getElem?_set]
    split
    next e =>
      subst e
      split
      next hl => simp [List.getD_eq_getElem?_getD, hl]
      next hl => rw [List.getElem?_eq_none (by omega)]
    next => rfl
  | x :: xs, ρ, h => by
    obtain ⟨s, e⟩ := for_same (i := i) (body := body) (cs := cs) xs (ρ.set i (.d x)) fun y hy => by rw [List.set_set]; exact h y (by simp [hy])
    rw [List.set_set] at e
    exact ⟨s, for_step (ρ' := ρ.set i (.d x)) rfl (.inl (h x (by simp))) e⟩
theorem all_same {m : Nat} (xs : List D) (W : D) (hW : W = .list xs ∨ W = .tuple xs) (hl : xs.length ≤ 1000000) (h : ∀ x ∈ xs, F__law_equal m [.d x, .d x] [] = .ok (.d (.bool true)) []) : F__law_all_equal (m + 1) [.d W, .d W] [] = .ok (.d (.bool true)) [] := by
  obtain ⟨s, e⟩ := for_same (i := 2) (body := (sIf (tNotM (tT (eFrz (eCall (F__law_equal m) (aCons (eBin ixD (eV 0) (eV 2)) (aCons (eBin ixD (eV 1) (eV 2)) aNil)))))) (sRet (eRv (eC (.bool false)))) gNil)) (cs := []) (rngD 0 xs.length) [.d W, .d W, .no] (by
    intro x hx
    obtain ⟨i, hi, rfl⟩ := List.mem_map.1 hx
    have hi := List.mem_range.1 hi
    have g := h xs[i] (List.getElem_mem hi)
    have a : ixD W (.int (0 + (i : Int))) = some xs[i] := by
      have at1 : atI xs (0 + (i : Int)) = some xs[i] := atI_of (n := i) (by omega) (List.getElem?_eq_getElem hi)
      rcases hW with rfl | rfl <;> simpa using at1
    generalize xs[i] = y at *
    generalize (0 + (i : Int)) = z at *
    simp [a, g])
  have ln : lenG [W] = some (.int (xs.length : Int)) := by rcases hW with rfl | rfl <;> rfl
  have it : iRng (eCd lenG (aCons (eV 1) aNil)) [.d W, .d W, .no] [] = .ok (rngD 0 xs.length) [] := iRng_n (n := xs.length) (by simp [ln]) hl
  unfold F__law_all_equal
  exact run_of (out := .rt (.d (.bool true)) []) (seq_nx (for_of it e) (by simp)) (by simp)
section
variable {C : Addr} {f : Str} {fo fi fe : List S → M S} {fr : List S → M Rv} {ρ : List S} {cs cs1 cs2 : Store} {j : Nat} {fs : List (Str × S)} {xs : List D} {x : D}
theorem vw_cel (hc : cs[j]? = some (.lst xs)) : vwM (.cel j) cs = .ok (.list xs) cs := by unfold vwM vw; simp only [hc]
theorem vws_c (hc : cs[j]? = some (.lst xs)) : vwsM [.cel j] cs = .ok [.list xs] cs := by
  unfold vwsM vws
  have : vw (.cel j) cs = some (.list xs) := by unfold vw; simp only [hc]
  simp [this, vws]
theorem sub_c {k : Int} {m : Nat} (he : fe ρ cs = .ok (.d x) cs1) (ho : fo ρ cs1 = .ok (.cel j) cs1) (hi : fi ρ cs1 = .ok (.d (.int k)) cs1) (hc : cs1[j]? = some (.lst xs)) (hk : ixN xs.length k = some m) : sSub fo fi fe ρ cs = .nx ρ (cs1.set j (.lst (xs.set m x))) := by
  have c : celM (.cel j) cs1 = .ok (j, xs) cs1 := by unfold celM; simp only [hc]
  unfold sSub
  rw [stp_, bnd_ok he, bnd_ok ho, bnd_ok hi, bnd_ok c]
  dsimp only
  rw [hk]; rfl
end
section
variable {C : Addr} {fo : List S → M S} {g : List S → M (List S)} {Fn : List S → M Rv} {ρ ss : List S} {cs cs1 cs2 : Store} {j : Nat} {fs : List (Str × S)} {m : Str} {r : Res Rv}
end
structure Ly where
  t : Nat
  A : Int
  B : Int
def GLy (l : Ly) : Prop := 0 ≤ l.A ∧ 0 ≤ l.B
def clp (l : Ly) (x : Int) : Int := min (max (x - l.B) 0) l.A
def bfr (l : Ly) (s b : Int) : Int := if l.t = 0 ∨ l.t = 1 ∧ b = 1 then 0 else s
def tkP : List Ly → List Int → Int → Int → List Int × Int
  | l :: T, s :: ss, n, b => ((if l.t = 0 then 0 else min (bfr l s b + n) (l.A + l.B)) :: (tkP T ss (n - (clp l (bfr l s b + n) - clp l (bfr l s b))) b).1, (tkP T ss (n - (clp l (bfr l s b + n) - clp l (bfr l s b))) b).2)
  | _, _, n, _ => ([], n)
def tkL : List Ly → List Int → Int → Int → List Int × Int
  | l :: T, s :: ss, n, b => ((if l.t = 0 then 0 else bfr l s b + n) :: (tkL T ss (n - (clp l (bfr l s b + n) - clp l (bfr l s b))) b).1, (tkL T ss (n - (clp l (bfr l s b + n) - clp l (bfr l s b))) b).2)
  | _, _, n, _ => ([], n)
def cutL : List Ly → List Int → List Int
  | l :: T, s :: ss => min s (l.A + l.B) :: cutL T ss
  | _, _ => []
theorem clp_step {l : Ly} (h : GLy l) {x n : Int} (hn : 0 ≤ n) : 0 ≤ clp l (x + n) - clp l x ∧ clp l (x + n) - clp l x ≤ n := by
  obtain ⟨h1, h2⟩ := h
  unfold clp
  omega
theorem clp_cut {l : Ly} (h : GLy l) {x n : Int} (hn : 0 ≤ n) : clp l (min x (l.A + l.B) + n) = clp l (x + n) := by
  obtain ⟨h1, h2⟩ := h
  unfold clp
  omega
theorem clp_cut0 {l : Ly} (h : GLy l) (x : Int) : clp l (min x (l.A + l.B)) = clp l x := by
  have := clp_cut h (x := x) (n := 0) (by omega)
  rwa [Int.add_zero, Int.add_zero] at this
theorem bfr_nn {l : Ly} {s b : Int} (h : 0 ≤ s) : 0 ≤ bfr l s b := by
  unfold bfr
  split <;> omega
theorem tkL_ok : ∀ (T : List Ly) (ss : List Int) (n b : Int), (∀ l ∈ T, GLy l) → (∀ s ∈ ss, 0 ≤ s) → 0 ≤ n → T.length = ss.length → (tkL T ss n b).1.length = T.length ∧ (∀ s ∈ (tkL T ss n b).1, 0 ≤ s ∧ s ≤ n + ss.foldr max 0) ∧ 0 ≤ (tkL T ss n b).2 ∧ (tkL T ss n b).2 ≤ n
  | [], [], n, b, _, _, hn, _ => ⟨rfl, (fun s h => by cases h), hn, Int.le_refl _⟩
  | l :: T, s :: ss, n, b, hT, hs, hn, hl => by
    have c := clp_step (hT l List.mem_cons_self) (x := bfr l s b) hn
    have z := bfr_nn (l := l) (b := b) (hs s List.mem_cons_self)
    have zs : bfr l s b ≤ max s 0 := by unfold bfr; split <;> omega
    obtain ⟨i1, i2, i3, i4⟩ := tkL_ok T ss (n - (clp l (bfr l s b + n) - clp l (bfr l s b))) b (fun l' h => hT l' (List.mem_cons_of_mem _ h)) (fun x h => hs x (List.mem_cons_of_mem _ h)) (by omega) (by simpa using hl)
    refine ⟨by show (tkL T ss _ b).1.length + 1 = _; rw [i1]; rfl, fun x hx => ?_, i3, Int.le_trans i4 (by omega)⟩
    have fm : (s :: ss).foldr max 0 = max s (ss.foldr max 0) := rfl
    have f0 : 0 ≤ ss.foldr max 0 := by
      cases ss with
      | nil => exact Int.le_refl _
      | cons y ys =>
        have := hs y (by simp)
        show 0 ≤ max y _
        omega
    rw [fm]
    rcases List.mem_cons.1 hx with e | hx
    · rw [e]
      split <;> omega
    · have := i2 x hx
      omega
theorem tk_cut : ∀ (T : List Ly) (ss : List Int) (n b : Int), (∀ l ∈ T, GLy l) → (∀ s ∈ ss, 0 ≤ s) → 0 ≤ n → T.length = ss.length → tkP T (cutL T ss) n b = (cutL T (tkL T ss n b).1, (tkL T ss n b).2)
  | [], [], n, b, _, _, _, _ => rfl
  | l :: T, s :: ss, n, b, hT, hs, hn, hl => by
    have g := hT l List.mem_cons_self
    have g1 := g.1
    have g2 := g.2
    have c := clp_step g (x := bfr l s b) hn
    have z := hs s List.mem_cons_self
    have eb : clp l (bfr l (min s (l.A + l.B)) b + n) - clp l (bfr l (min s (l.A + l.B)) b) = clp l (bfr l s b + n) - clp l (bfr l s b) := by
      unfold bfr
      split
      · rfl
      · rw [clp_cut g hn, clp_cut0 g]
    have ih := tk_cut T ss (n - (clp l (bfr l s b + n) - clp l (bfr l s b))) b (fun l' h => hT l' (List.mem_cons_of_mem _ h)) (fun x h => hs x (List.mem_cons_of_mem _ h)) (by omega) (by simpa using hl)
    have em : (if l.t = 0 then 0 else min (bfr l (min s (l.A + l.B)) b + n) (l.A + l.B)) = min (if l.t = 0 then 0 else bfr l s b + n) (l.A + l.B) := by
      unfold bfr
      by_cases c0 : l.t = 0
      · simp only [c0, if_true]
        omega
      · simp only [c0, if_false, false_or]
        split <;> omega
    show ((if l.t = 0 then 0 else min (bfr l (min s (l.A + l.B)) b + n) (l.A + l.B)) :: (tkP T (cutL T ss) (n - (clp l (bfr l (min s (l.A + l.B)) b + n) - clp l (bfr l (min s (l.A + l.B)) b))) b).1, (tkP T (cutL T ss) (n - (clp l (bfr l (min s (l.A + l.B)) b + n) - clp l (bfr l (min s (l.A + l.B)) b))) b).2) = (min (if l.t = 0 then 0 else bfr l s b + n) (l.A + l.B) :: cutL T (tkL T ss (n - (clp l (bfr l s b + n) - clp l (bfr l s b))) b).1, (tkL T ss (n - (clp l (bfr l s b + n) - clp l (bfr l s b))) b).2)
    rw [eb, ih, em]
/-- in units -/
def sc (u : Int) (l : Ly) : Ly := ⟨l.t, u * l.A, u * l.B⟩
theorem mul_max0 {u : Int} (hu : 0 < u) (y : Int) : max (u * y) 0 = u * max y 0 := by
  by_cases h : 0 ≤ y
  · have := Int.mul_nonneg (Int.le_of_lt hu) h
    rw [show max y 0 = y by omega]; omega
  · have : u * y ≤ 0 := by
      have := Int.mul_nonneg (Int.le_of_lt hu) (show 0 ≤ -y by omega)
      rw [Int.mul_neg] at this
      omega
    rw [show max y 0 = 0 by omega, Int.mul_zero]; omega
theorem mul_min {u : Int} (hu : 0 < u) (x y : Int) : min (u * x) (u * y) = u * min x y := by
  by_cases h : x ≤ y
  · have := Int.mul_le_mul_of_nonneg_left h (Int.le_of_lt hu)
    rw [show min x y = x by omega]; omega
  · have := Int.mul_le_mul_of_nonneg_left (show y ≤ x by omega) (Int.le_of_lt hu)
    rw [show min x y = y by omega]; omega
theorem clp_sc {u : Int} (hu : 0 < u) (l : Ly) (x : Int) : clp (sc u l) (u * x) = u * clp l x := by
  unfold clp sc
  dsimp only
  rw [← Int.mul_sub, mul_max0 hu, mul_min hu]
theorem bfr_sc {u : Int} (l : Ly) (s b : Int) : bfr (sc u l) (u * s) b = u * bfr l s b := by
  unfold bfr sc
  dsimp only
  split
  · rw [Int.mul_zero]
  · rfl
theorem tkL_sc {u : Int} (hu : 0 < u) : ∀ (T : List Ly) (ss : List Int) (n b : Int), tkL (T.map (sc u)) (ss.map (u * ·)) (u * n) b = ((tkL T ss n b).1.map (u * ·), u * (tkL T ss n b).2)
  | [], ss, n, b => by cases ss <;> rfl
  | l :: T, [], n, b => rfl
  | l :: T, s :: ss, n, b => by
    have ih := tkL_sc hu T ss (n - (clp l (bfr l s b + n) - clp l (bfr l s b))) b
    have e1 : clp (sc u l) (bfr (sc u l) (u * s) b + u * n) = u * clp l (bfr l s b + n) := by rw [bfr_sc, ← Int.mul_add, clp_sc hu]
    have e2 : clp (sc u l) (bfr (sc u l) (u * s) b) = u * clp l (bfr l s b) := by rw [bfr_sc, clp_sc hu]
    have e3 : u * n - (clp (sc u l) (bfr (sc u l) (u * s) b + u * n) - clp (sc u l) (bfr (sc u l) (u * s) b)) = u * (n - (clp l (bfr l s b + n) - clp l (bfr l s b))) := by rw [e1, e2, ← Int.mul_sub, ← Int.mul_sub]
    have e4 : (if (sc u l).t = 0 then 0 else bfr (sc u l) (u * s) b + u * n) = u * (if l.t = 0 then 0 else bfr l s b + n) := by
      rw [bfr_sc]
      show (if l.t = 0 then 0 else u * bfr l s b + u * n) = _
      split
      · rw [Int.mul_zero]
      · rw [Int.mul_add]
    show ((if (sc u l).t = 0 then 0 else bfr (sc u l) (u * s) b + u * n) :: (tkL (T.map (sc u)) (ss.map (u * ·)) (u * n - (clp (sc u l) (bfr (sc u l) (u * s) b + u * n) - clp (sc u l) (bfr (sc u l) (u * s) b))) b).1, (tkL (T.map (sc u)) (ss.map (u * ·)) (u * n - (clp (sc u l) (bfr (sc u l) (u * s) b + u * n) - clp (sc u l) (bfr (sc u l) (u * s) b))) b).2) = _
    rw [e3, e4, ih]
    rfl
theorem cutL_len : ∀ (T : List Ly) (ss : List Int), T.length = ss.length → (cutL T ss).length = T.length
  | [], _, _ => rfl
  | _ :: _, [], h => by simp at h
  | l :: T, s :: ss, h => by
    show (cutL T ss).length + 1 = _
    rw [cutL_len T ss (by simpa using h)]; rfl
/-- a standing of a tower: each sum within its layer -/
def StT : List Ly → List Int → Prop
  | l :: T, s :: ss => (0 ≤ s ∧ s ≤ l.A + l.B) ∧ StT T ss
  | [], [] => True
  | _, _ => False
theorem StT.len : ∀ {T : List Ly} {ss : List Int}, StT T ss → T.length = ss.length
  | [], [], _ => rfl
  | _ :: _, _ :: _, h => by simp [StT.len h.2]
  | [], _ :: _, h => h.elim
  | _ :: _, [], h => h.elim
theorem StT.nn : ∀ {T : List Ly} {ss : List Int}, StT T ss → ∀ s ∈ ss, 0 ≤ s
  | [], [], _, s, hs => by cases hs
  | _ :: _, _ :: _, h, s, hs => by
    rcases List.mem_cons.1 hs with e | hs
    · rw [e]; exact h.1.1
    · exact StT.nn h.2 s hs
  | [], _ :: _, h, _, _ => h.elim
  | _ :: _, [], h, _, _ => h.elim
theorem StT.cut : ∀ {T : List Ly} {ss : List Int}, StT T ss → cutL T ss = ss
  | [], [], _ => rfl
  | l :: T, s :: ss, h => by
    show min s (l.A + l.B) :: cutL T ss = _
    rw [h.2.cut, show min s (l.A + l.B) = s by have := h.1.2; omega]
  | [], _ :: _, h => h.elim
  | _ :: _, [], h => h.elim
theorem cut_StT : ∀ {T : List Ly} {ss : List Int}, T.length = ss.length → (∀ l ∈ T, GLy l) → (∀ s ∈ ss, 0 ≤ s) → StT T (cutL T ss)
  | [], [], _, _, _ => True.intro
  | l :: T, s :: ss, h, g, hs => by
    refine ⟨?_, cut_StT (by simpa using h) (fun l' h' => g l' (List.mem_cons_of_mem _ h')) fun x hx => hs x (List.mem_cons_of_mem _ hx)⟩
    have g1 := (g l List.mem_cons_self).1
    have g2 := (g l List.mem_cons_self).2
    have := hs s List.mem_cons_self
    omega
  | [], _ :: _, h, _, _ => by simp at h
  | _ :: _, [], h, _, _ => by simp at h
theorem zero_StT : ∀ {T : List Ly}, (∀ l ∈ T, GLy l) → StT T (List.replicate T.length 0)
  | [], _ => True.intro
  | l :: T, g => by
    refine ⟨⟨Int.le_refl _, ?_⟩, zero_StT fun l' h' => g l' (List.mem_cons_of_mem _ h')⟩
    have g1 := (g l List.mem_cons_self).1
    have g2 := (g l List.mem_cons_self).2
    omega
/-- one step from a standing: the law's, cut, is the program's -/
theorem tk_St {T : List Ly} {ss : List Int} (h : StT T ss) (g : ∀ l ∈ T, GLy l) {n : Int} (hn : 0 ≤ n) (b : Int) : tkP T ss n b = (cutL T (tkL T ss n b).1, (tkL T ss n b).2) ∧ StT T (tkP T ss n b).1 := by
  have e := tk_cut T ss n b g h.nn hn h.len
  rw [h.cut] at e
  obtain ⟨i1, i2, _⟩ := tkL_ok T ss n b g h.nn hn h.len
  rw [e]
  exact ⟨rfl, cut_StT i1.symm g fun s hs => (i2 s hs).1⟩
/-- with all sums 0 it is one whether an event begins -/
theorem tkP_zero : ∀ (T : List Ly) (n b : Int), tkP T (List.replicate T.length 0) n b = tkP T (List.replicate T.length 0) n 1
  | [], n, b => rfl
  | l :: T, n, b => by
    have e : ∀ b : Int, bfr l 0 b = 0 := fun b => by unfold bfr; split <;> rfl
    show ((if l.t = 0 then 0 else min (bfr l 0 b + n) (l.A + l.B)) :: (tkP T (List.replicate T.length 0) (n - (clp l (bfr l 0 b + n) - clp l (bfr l 0 b))) b).1, (tkP T (List.replicate T.length 0) (n - (clp l (bfr l 0 b + n) - clp l (bfr l 0 b))) b).2) = ((if l.t = 0 then 0 else min (bfr l 0 1 + n) (l.A + l.B)) :: (tkP T (List.replicate T.length 0) (n - (clp l (bfr l 0 1 + n) - clp l (bfr l 0 1))) 1).1, (tkP T (List.replicate T.length 0) (n - (clp l (bfr l 0 1 + n) - clp l (bfr l 0 1))) 1).2)
    rw [e b, e 1, tkP_zero T _ b]
section
variable {σ μ : Type} [DecidableEq σ]
/-- one standing is looked at: the queue behind it, or a row that parts -/
def expA (f : σ → μ → σ × Bool) (s : σ) (run : List μ) : List μ → List (σ × List μ) → Sum (List μ) (List (σ × List μ))
  | [], Q => .inr Q
  | m :: ms, Q => if (f s m).2 = true then .inl (run ++ [m]) else expA f s run ms (if (f s m).1 ∈ Q.map Prod.fst then Q else Q ++ [((f s m).1, run ++ [m])])
def bfsA (f : σ → μ → σ × Bool) (ms : List μ) : Nat → Nat → List (σ × List μ) → Option (Sum (List μ) (List (σ × List μ)))
  | 0, _, _ => none
  | k + 1, i, Q => match Q[i]? with
    | none => some (.inr Q)
    | some (s, run) => match expA f s run ms Q with
      | .inl r => some (.inl r)
      | .inr Q' => bfsA f ms k (i + 1) Q'
/-- the same, of the standings alone -/
def expS (f : σ → μ → σ) (s : σ) : List μ → List σ → List σ
  | [], Q => Q
  | m :: ms, Q => expS f s ms (if f s m ∈ Q then Q else Q ++ [f s m])
def bfsS (f : σ → μ → σ) (ms : List μ) : Nat → Nat → List σ → Option (List σ)
  | 0, _, _ => none
  | k + 1, i, Q => match Q[i]? with
    | none => some Q
    | some s => bfsS f ms k (i + 1) (expS f s ms Q)
theorem expS_pre (f : σ → μ → σ) (s : σ) : ∀ (ms : List μ) (Q : List σ), ∃ R, expS f s ms Q = Q ++ R
  | [], Q => ⟨[], (List.append_nil Q).symm⟩
  | m :: ms, Q => by
    show ∃ R, expS f s ms (if f s m ∈ Q then Q else Q ++ [f s m]) = Q ++ R
    split
    · exact expS_pre f s ms Q
    · obtain ⟨R, e⟩ := expS_pre f s ms (Q ++ [f s m])
      exact ⟨f s m :: R, by rw [e]; simp⟩
theorem expS_nodup (f : σ → μ → σ) (s : σ) : ∀ (ms : List μ) (Q : List σ), Q.Nodup → (expS f s ms Q).Nodup
  | [], _, h => h
  | m :: ms, Q, h => by
    show (expS f s ms (if f s m ∈ Q then Q else Q ++ [f s m])).Nodup
    split
    · exact expS_nodup f s ms Q h
    · rename_i hn
      refine expS_nodup f s ms _ ?_
      rw [List.nodup_append]
      refine ⟨h, by simp, fun a ha b hb => ?_⟩
      rw [List.mem_singleton] at hb
      rw [hb]
      exact fun e => hn (e ▸ ha)
theorem expS_sub (f : σ → μ → σ) (s : σ) (P : σ → Prop) : ∀ (ms : List μ) (Q : List σ), (∀ x ∈ Q, P x) → (∀ m ∈ ms, P (f s m)) → ∀ x ∈ expS f s ms Q, P x
  | [], _, h, _ => h
  | m :: ms, Q, h, hm => by
    show ∀ x ∈ expS f s ms (if f s m ∈ Q then Q else Q ++ [f s m]), P x
    refine expS_sub f s P ms _ ?_ fun m' h' => hm m' (List.mem_cons_of_mem _ h')
    split
    · exact h
    · intro x hx
      rw [List.mem_append, List.mem_singleton] at hx
      rcases hx with hx | rfl
      · exact h x hx
      · exact hm m List.mem_cons_self
theorem expS_has (f : σ → μ → σ) (s : σ) : ∀ (ms : List μ) (Q : List σ), ∀ m ∈ ms, f s m ∈ expS f s ms Q
  | m :: ms, Q, m', h => by
    show f s m' ∈ expS f s ms (if f s m ∈ Q then Q else Q ++ [f s m])
    rcases List.mem_cons.1 h with e | h
    · rw [e]
      obtain ⟨R, e2⟩ := expS_pre f s ms (if f s m ∈ Q then Q else Q ++ [f s m])
      rw [e2, List.mem_append]
      left
      split
      · assumption
      · simp
    · exact expS_has f s ms _ m' h
theorem nodup_sub_len : ∀ {Q R : List σ}, Q.Nodup → (∀ x ∈ Q, x ∈ R) → Q.length ≤ R.length
  | [], _, _, _ => Nat.zero_le _
  | x :: Q, R, h, hs => by
    rw [List.nodup_cons] at h
    have hx := hs x List.mem_cons_self
    have ih := nodup_sub_len (Q := Q) (R := R.erase x) h.2 fun y hy => (List.mem_erase_of_ne (show y ≠ x from fun e => h.1 (by rw [← e]; exact hy))).2 (hs y (List.mem_cons_of_mem _ hy))
    rw [List.length_erase_of_mem hx] at ih
    have := List.length_pos_of_mem hx
    show Q.length + 1 ≤ _
    omega
/-- what a walk ends with is closed -/
theorem bfsS_closed (f : σ → μ → σ) (ms : List μ) : ∀ (k i : Nat) (Q R : List σ), bfsS f ms k i Q = some R → (∀ (j : Nat) (s : σ), j < i → Q[j]? = some s → ∀ m ∈ ms, f s m ∈ Q) → (∀ s ∈ R, ∀ m ∈ ms, f s m ∈ R) ∧ (∀ x ∈ Q, x ∈ R) ∧ R.length < i + k
  | 0, _, _, _, h, _ => by cases h
  | k + 1, i, Q, R, h, hq => by
    have h' : (match Q[i]? with
      | none => some Q
      | some s => bfsS f ms k (i + 1) (expS f s ms Q)) = some R := h
    cases e : Q[i]? with
    | none =>
      rw [e] at h'
      cases h'
      have hl : Q.length ≤ i := List.getElem?_eq_none_iff.1 e
      refine ⟨fun s hs m hm => ?_, fun x hx => hx, by omega⟩
      obtain ⟨j, hj⟩ := List.mem_iff_getElem?.1 hs
      exact hq j s (by have := (List.getElem?_eq_some_iff.1 hj).1; omega) hj m hm
    | some s =>
      rw [e] at h'
      obtain ⟨T, eT⟩ := expS_pre f s ms Q
      have hil := (List.getElem?_eq_some_iff.1 e).1
      obtain ⟨c1, c2, c3⟩ := bfsS_closed f ms k (i + 1) (expS f s ms Q) R h' fun j x hj hx m hm => by
        rw [eT, List.getElem?_append_left (by omega)] at hx
        by_cases c : j = i
        · rw [c, e] at hx
          cases hx
          exact expS_has f s ms Q m hm
        · rw [eT, List.mem_append]
          exact .inl (hq j x (by omega) hx m hm)
      exact ⟨c1, fun x hx => c2 x (by rw [eT, List.mem_append]; exact .inl hx), by omega⟩
/-- a walk within what is closed ends -/
theorem bfsS_total (f : σ → μ → σ) (ms : List μ) {R : List σ} (hR : ∀ s ∈ R, ∀ m ∈ ms, f s m ∈ R) : ∀ (k i : Nat) (Q : List σ), Q.Nodup → (∀ x ∈ Q, x ∈ R) → R.length < i + k → i ≤ Q.length → ∃ Q', bfsS f ms k i Q = some Q' ∧ Q'.Nodup ∧ (∀ x ∈ Q', x ∈ R) ∧ Q'.length ≤ R.length
  | 0, i, Q, hn, hs, hk, hi => by
    have := nodup_sub_len hn hs
    omega
  | k + 1, i, Q, hn, hs, hk, hi => by
    show ∃ Q', (match Q[i]? with
      | none => some Q
      | some s => bfsS f ms k (i + 1) (expS f s ms Q)) = some Q' ∧ _
    cases e : Q[i]? with
    | none => exact ⟨Q, rfl, hn, hs, nodup_sub_len hn hs⟩
    | some s =>
      obtain ⟨T, eT⟩ := expS_pre f s ms Q
      have hil := (List.getElem?_eq_some_iff.1 e).1
      exact bfsS_total f ms hR k (i + 1) (expS f s ms Q) (expS_nodup f s ms Q hn) (expS_sub f s (· ∈ R) ms Q hs fun m hm => hR s (hs s (List.mem_of_getElem? e)) m hm) (by omega) (by rw [eT, List.length_append]; omega)
theorem expA_S {f : σ → μ → σ × Bool} {s : σ} {run : List μ} : ∀ {ms : List μ} {Q Q' : List (σ × List μ)}, expA f s run ms Q = .inr Q' → Q'.map Prod.fst = expS (fun s m => (f s m).1) s ms (Q.map Prod.fst)
  | [], Q, Q', h => by cases h; rfl
  | m :: ms, Q, Q', h => by
    have h' : (if (f s m).2 = true then Sum.inl (run ++ [m]) else expA f s run ms (if (f s m).1 ∈ Q.map Prod.fst then Q else Q ++ [((f s m).1, run ++ [m])])) = Sum.inr Q' := h
    split at h'
    · cases h'
    · have ih := expA_S h'
      rw [ih]
      show _ = expS (fun s m => (f s m).1) s ms (if (f s m).1 ∈ Q.map Prod.fst then Q.map Prod.fst else Q.map Prod.fst ++ [(f s m).1])
      split
      · rfl
      · rw [List.map_append]; rfl
theorem bfsA_S {f : σ → μ → σ × Bool} {ms : List μ} : ∀ {k i : Nat} {Q Q' : List (σ × List μ)}, bfsA f ms k i Q = some (.inr Q') → bfsS (fun s m => (f s m).1) ms k i (Q.map Prod.fst) = some (Q'.map Prod.fst)
  | 0, _, _, _, h => by cases h
  | k + 1, i, Q, Q', h => by
    have h' : (match Q[i]? with
      | none => some (.inr Q)
      | some (s, run) => match expA f s run ms Q with
        | .inl r => some (.inl r)
        | .inr Q' => bfsA f ms k (i + 1) Q') = some (Sum.inr Q') := h
    show (match (Q.map Prod.fst)[i]? with
      | none => some (Q.map Prod.fst)
      | some s => bfsS (fun s m => (f s m).1) ms k (i + 1) (expS (fun s m => (f s m).1) s ms (Q.map Prod.fst))) = _
    rw [List.getElem?_map]
    cases e : Q[i]? with
    | none => rw [e] at h'; cases h'; rfl
    | some p =>
      obtain ⟨s, run⟩ := p
      rw [e] at h'
      cases ee : expA f s run ms Q with
      | inl r => simp only [ee] at h'; cases h'
      | inr Q2 =>
        simp only [ee] at h'
        have := bfsA_S h'
        rw [expA_S ee] at this
        exact this
/-- a walk that ends, with what parts looked at, ends too -/
theorem bfsA_total {f : σ → μ → σ × Bool} {ms : List μ} : ∀ {k i : Nat} {Q : List (σ × List μ)} {R : List σ}, bfsS (fun s m => (f s m).1) ms k i (Q.map Prod.fst) = some R → (∃ r, bfsA f ms k i Q = some (.inl r)) ∨ ∃ Q', bfsA f ms k i Q = some (.inr Q') ∧ Q'.map Prod.fst = R
  | 0, _, _, _, h => by cases h
  | k + 1, i, Q, R, h => by
    have h' : (match (Q.map Prod.fst)[i]? with
      | none => some (Q.map Prod.fst)
      | some s => bfsS (fun s m => (f s m).1) ms k (i + 1) (expS (fun s m => (f s m).1) s ms (Q.map Prod.fst))) = some R := h
    rw [List.getElem?_map] at h'
    show (∃ r, (match Q[i]? with
      | none => some (.inr Q)
      | some (s, run) => match expA f s run ms Q with
        | .inl r => some (.inl r)
        | .inr Q' => bfsA f ms k (i + 1) Q') = some (Sum.inl r)) ∨ ∃ Q', (match Q[i]? with
      | none => some (.inr Q)
      | some (s, run) => match expA f s run ms Q with
        | .inl r => some (.inl r)
        | .inr Q' => bfsA f ms k (i + 1) Q') = some (Sum.inr Q') ∧ _
    cases e : Q[i]? with
    | none => rw [e] at h'; cases h'; exact .inr ⟨Q, rfl, rfl⟩
    | some p =>
      obtain ⟨s, run⟩ := p
      rw [e] at h'
      cases ee : expA f s run ms Q with
      | inl r => exact .inl ⟨r, by simp only [ee]⟩
      | inr Q2 =>
        simp only [ee]
        have h2 : bfsS (fun s m => (f s m).1) ms k (i + 1) (expS (fun s m => (f s m).1) s ms (Q.map Prod.fst)) = some R := h'
        rw [← expA_S ee] at h2
        exact bfsA_total h2
end
@[simp] theorem sp0 : (("risk" : Str) == ("event" : Str)) = false := rfl
@[simp] theorem sq0 : (("risk" : Str) = ("event" : Str)) = False := eq_false (by decide)
@[simp] theorem sp1 : (("risk" : Str) == ("year" : Str)) = false := rfl
@[simp] theorem sq1 : (("risk" : Str) = ("year" : Str)) = False := eq_false (by decide)
@[simp] theorem sp2 : (("risk" : Str) == ("part" : Str)) = false := rfl
@[simp] theorem sq2 : (("risk" : Str) = ("part" : Str)) = False := eq_false (by decide)
@[simp] theorem sp3 : (("risk" : Str) == ("told" : Str)) = false := rfl
@[simp] theorem sq3 : (("risk" : Str) = ("told" : Str)) = False := eq_false (by decide)
@[simp] theorem sp4 : (("risk" : Str) == ("large" : Str)) = false := rfl
@[simp] theorem sq4 : (("risk" : Str) = ("large" : Str)) = False := eq_false (by decide)
@[simp] theorem sp5 : (("risk" : Str) == ("bad" : Str)) = false := rfl
@[simp] theorem sq5 : (("risk" : Str) = ("bad" : Str)) = False := eq_false (by decide)
@[simp] theorem sp6 : (("risk" : Str) == ("other" : Str)) = false := rfl
@[simp] theorem sq6 : (("risk" : Str) = ("other" : Str)) = False := eq_false (by decide)
@[simp] theorem sp7 : (("risk" : Str) == ("alike" : Str)) = false := rfl
@[simp] theorem sq7 : (("risk" : Str) = ("alike" : Str)) = False := eq_false (by decide)
@[simp] theorem sp8 : (("risk" : Str) == ("apart" : Str)) = false := rfl
@[simp] theorem sq8 : (("risk" : Str) = ("apart" : Str)) = False := eq_false (by decide)
@[simp] theorem sp9 : (("event" : Str) == ("risk" : Str)) = false := rfl
@[simp] theorem sq9 : (("event" : Str) = ("risk" : Str)) = False := eq_false (by decide)
@[simp] theorem sp10 : (("event" : Str) == ("year" : Str)) = false := rfl
@[simp] theorem sq10 : (("event" : Str) = ("year" : Str)) = False := eq_false (by decide)
@[simp] theorem sp11 : (("event" : Str) == ("part" : Str)) = false := rfl
@[simp] theorem sq11 : (("event" : Str) = ("part" : Str)) = False := eq_false (by decide)
@[simp] theorem sp12 : (("event" : Str) == ("told" : Str)) = false := rfl
@[simp] theorem sq12 : (("event" : Str) = ("told" : Str)) = False := eq_false (by decide)
@[simp] theorem sp13 : (("event" : Str) == ("large" : Str)) = false := rfl
@[simp] theorem sq13 : (("event" : Str) = ("large" : Str)) = False := eq_false (by decide)
@[simp] theorem sp14 : (("event" : Str) == ("bad" : Str)) = false := rfl
@[simp] theorem sq14 : (("event" : Str) = ("bad" : Str)) = False := eq_false (by decide)
@[simp] theorem sp15 : (("event" : Str) == ("other" : Str)) = false := rfl
@[simp] theorem sq15 : (("event" : Str) = ("other" : Str)) = False := eq_false (by decide)
@[simp] theorem sp16 : (("event" : Str) == ("alike" : Str)) = false := rfl
@[simp] theorem sq16 : (("event" : Str) = ("alike" : Str)) = False := eq_false (by decide)
@[simp] theorem sp17 : (("event" : Str) == ("apart" : Str)) = false := rfl
@[simp] theorem sq17 : (("event" : Str) = ("apart" : Str)) = False := eq_false (by decide)
@[simp] theorem sp18 : (("year" : Str) == ("risk" : Str)) = false := rfl
@[simp] theorem sq18 : (("year" : Str) = ("risk" : Str)) = False := eq_false (by decide)
@[simp] theorem sp19 : (("year" : Str) == ("event" : Str)) = false := rfl
@[simp] theorem sq19 : (("year" : Str) = ("event" : Str)) = False := eq_false (by decide)
@[simp] theorem sp20 : (("year" : Str) == ("part" : Str)) = false := rfl
@[simp] theorem sq20 : (("year" : Str) = ("part" : Str)) = False := eq_false (by decide)
@[simp] theorem sp21 : (("year" : Str) == ("told" : Str)) = false := rfl
@[simp] theorem sq21 : (("year" : Str) = ("told" : Str)) = False := eq_false (by decide)
@[simp] theorem sp22 : (("year" : Str) == ("large" : Str)) = false := rfl
@[simp] theorem sq22 : (("year" : Str) = ("large" : Str)) = False := eq_false (by decide)
@[simp] theorem sp23 : (("year" : Str) == ("bad" : Str)) = false := rfl
@[simp] theorem sq23 : (("year" : Str) = ("bad" : Str)) = False := eq_false (by decide)
@[simp] theorem sp24 : (("year" : Str) == ("other" : Str)) = false := rfl
@[simp] theorem sq24 : (("year" : Str) = ("other" : Str)) = False := eq_false (by decide)
@[simp] theorem sp25 : (("year" : Str) == ("alike" : Str)) = false := rfl
@[simp] theorem sq25 : (("year" : Str) = ("alike" : Str)) = False := eq_false (by decide)
@[simp] theorem sp26 : (("year" : Str) == ("apart" : Str)) = false := rfl
@[simp] theorem sq26 : (("year" : Str) = ("apart" : Str)) = False := eq_false (by decide)
@[simp] theorem sp27 : (("part" : Str) == ("risk" : Str)) = false := rfl
@[simp] theorem sq27 : (("part" : Str) = ("risk" : Str)) = False := eq_false (by decide)
@[simp] theorem sp28 : (("part" : Str) == ("event" : Str)) = false := rfl
@[simp] theorem sq28 : (("part" : Str) = ("event" : Str)) = False := eq_false (by decide)
@[simp] theorem sp29 : (("part" : Str) == ("year" : Str)) = false := rfl
@[simp] theorem sq29 : (("part" : Str) = ("year" : Str)) = False := eq_false (by decide)
@[simp] theorem sp30 : (("part" : Str) == ("told" : Str)) = false := rfl
@[simp] theorem sq30 : (("part" : Str) = ("told" : Str)) = False := eq_false (by decide)
@[simp] theorem sp31 : (("part" : Str) == ("large" : Str)) = false := rfl
@[simp] theorem sq31 : (("part" : Str) = ("large" : Str)) = False := eq_false (by decide)
@[simp] theorem sp32 : (("part" : Str) == ("bad" : Str)) = false := rfl
@[simp] theorem sq32 : (("part" : Str) = ("bad" : Str)) = False := eq_false (by decide)
@[simp] theorem sp33 : (("part" : Str) == ("other" : Str)) = false := rfl
@[simp] theorem sq33 : (("part" : Str) = ("other" : Str)) = False := eq_false (by decide)
@[simp] theorem sp34 : (("part" : Str) == ("alike" : Str)) = false := rfl
@[simp] theorem sq34 : (("part" : Str) = ("alike" : Str)) = False := eq_false (by decide)
@[simp] theorem sp35 : (("part" : Str) == ("apart" : Str)) = false := rfl
@[simp] theorem sq35 : (("part" : Str) = ("apart" : Str)) = False := eq_false (by decide)
@[simp] theorem sp36 : (("told" : Str) == ("risk" : Str)) = false := rfl
@[simp] theorem sq36 : (("told" : Str) = ("risk" : Str)) = False := eq_false (by decide)
@[simp] theorem sp37 : (("told" : Str) == ("event" : Str)) = false := rfl
@[simp] theorem sq37 : (("told" : Str) = ("event" : Str)) = False := eq_false (by decide)
@[simp] theorem sp38 : (("told" : Str) == ("year" : Str)) = false := rfl
@[simp] theorem sq38 : (("told" : Str) = ("year" : Str)) = False := eq_false (by decide)
@[simp] theorem sp39 : (("told" : Str) == ("part" : Str)) = false := rfl
@[simp] theorem sq39 : (("told" : Str) = ("part" : Str)) = False := eq_false (by decide)
@[simp] theorem sp40 : (("told" : Str) == ("large" : Str)) = false := rfl
@[simp] theorem sq40 : (("told" : Str) = ("large" : Str)) = False := eq_false (by decide)
@[simp] theorem sp41 : (("told" : Str) == ("bad" : Str)) = false := rfl
@[simp] theorem sq41 : (("told" : Str) = ("bad" : Str)) = False := eq_false (by decide)
@[simp] theorem sp42 : (("told" : Str) == ("other" : Str)) = false := rfl
@[simp] theorem sq42 : (("told" : Str) = ("other" : Str)) = False := eq_false (by decide)
@[simp] theorem sp43 : (("told" : Str) == ("alike" : Str)) = false := rfl
@[simp] theorem sq43 : (("told" : Str) = ("alike" : Str)) = False := eq_false (by decide)
@[simp] theorem sp44 : (("told" : Str) == ("apart" : Str)) = false := rfl
@[simp] theorem sq44 : (("told" : Str) = ("apart" : Str)) = False := eq_false (by decide)
@[simp] theorem sp45 : (("large" : Str) == ("risk" : Str)) = false := rfl
@[simp] theorem sq45 : (("large" : Str) = ("risk" : Str)) = False := eq_false (by decide)
@[simp] theorem sp46 : (("large" : Str) == ("event" : Str)) = false := rfl
@[simp] theorem sq46 : (("large" : Str) = ("event" : Str)) = False := eq_false (by decide)
@[simp] theorem sp47 : (("large" : Str) == ("year" : Str)) = false := rfl
@[simp] theorem sq47 : (("large" : Str) = ("year" : Str)) = False := eq_false (by decide)
@[simp] theorem sp48 : (("large" : Str) == ("part" : Str)) = false := rfl
@[simp] theorem sq48 : (("large" : Str) = ("part" : Str)) = False := eq_false (by decide)
@[simp] theorem sp49 : (("large" : Str) == ("told" : Str)) = false := rfl
@[simp] theorem sq49 : (("large" : Str) = ("told" : Str)) = False := eq_false (by decide)
@[simp] theorem sp50 : (("large" : Str) == ("bad" : Str)) = false := rfl
@[simp] theorem sq50 : (("large" : Str) = ("bad" : Str)) = False := eq_false (by decide)
@[simp] theorem sp51 : (("large" : Str) == ("other" : Str)) = false := rfl
@[simp] theorem sq51 : (("large" : Str) = ("other" : Str)) = False := eq_false (by decide)
@[simp] theorem sp52 : (("large" : Str) == ("alike" : Str)) = false := rfl
@[simp] theorem sq52 : (("large" : Str) = ("alike" : Str)) = False := eq_false (by decide)
@[simp] theorem sp53 : (("large" : Str) == ("apart" : Str)) = false := rfl
@[simp] theorem sq53 : (("large" : Str) = ("apart" : Str)) = False := eq_false (by decide)
@[simp] theorem sp54 : (("bad" : Str) == ("risk" : Str)) = false := rfl
@[simp] theorem sq54 : (("bad" : Str) = ("risk" : Str)) = False := eq_false (by decide)
@[simp] theorem sp55 : (("bad" : Str) == ("event" : Str)) = false := rfl
@[simp] theorem sq55 : (("bad" : Str) = ("event" : Str)) = False := eq_false (by decide)
@[simp] theorem sp56 : (("bad" : Str) == ("year" : Str)) = false := rfl
@[simp] theorem sq56 : (("bad" : Str) = ("year" : Str)) = False := eq_false (by decide)
@[simp] theorem sp57 : (("bad" : Str) == ("part" : Str)) = false := rfl
@[simp] theorem sq57 : (("bad" : Str) = ("part" : Str)) = False := eq_false (by decide)
@[simp] theorem sp58 : (("bad" : Str) == ("told" : Str)) = false := rfl
@[simp] theorem sq58 : (("bad" : Str) = ("told" : Str)) = False := eq_false (by decide)
@[simp] theorem sp59 : (("bad" : Str) == ("large" : Str)) = false := rfl
@[simp] theorem sq59 : (("bad" : Str) = ("large" : Str)) = False := eq_false (by decide)
@[simp] theorem sp60 : (("bad" : Str) == ("other" : Str)) = false := rfl
@[simp] theorem sq60 : (("bad" : Str) = ("other" : Str)) = False := eq_false (by decide)
@[simp] theorem sp61 : (("bad" : Str) == ("alike" : Str)) = false := rfl
@[simp] theorem sq61 : (("bad" : Str) = ("alike" : Str)) = False := eq_false (by decide)
@[simp] theorem sp62 : (("bad" : Str) == ("apart" : Str)) = false := rfl
@[simp] theorem sq62 : (("bad" : Str) = ("apart" : Str)) = False := eq_false (by decide)
@[simp] theorem sp63 : (("other" : Str) == ("risk" : Str)) = false := rfl
@[simp] theorem sq63 : (("other" : Str) = ("risk" : Str)) = False := eq_false (by decide)
@[simp] theorem sp64 : (("other" : Str) == ("event" : Str)) = false := rfl
@[simp] theorem sq64 : (("other" : Str) = ("event" : Str)) = False := eq_false (by decide)
@[simp] theorem sp65 : (("other" : Str) == ("year" : Str)) = false := rfl
@[simp] theorem sq65 : (("other" : Str) = ("year" : Str)) = False := eq_false (by decide)
@[simp] theorem sp66 : (("other" : Str) == ("part" : Str)) = false := rfl
@[simp] theorem sq66 : (("other" : Str) = ("part" : Str)) = False := eq_false (by decide)
@[simp] theorem sp67 : (("other" : Str) == ("told" : Str)) = false := rfl
@[simp] theorem sq67 : (("other" : Str) = ("told" : Str)) = False := eq_false (by decide)
@[simp] theorem sp68 : (("other" : Str) == ("large" : Str)) = false := rfl
@[simp] theorem sq68 : (("other" : Str) = ("large" : Str)) = False := eq_false (by decide)
@[simp] theorem sp69 : (("other" : Str) == ("bad" : Str)) = false := rfl
@[simp] theorem sq69 : (("other" : Str) = ("bad" : Str)) = False := eq_false (by decide)
@[simp] theorem sp70 : (("other" : Str) == ("alike" : Str)) = false := rfl
@[simp] theorem sq70 : (("other" : Str) = ("alike" : Str)) = False := eq_false (by decide)
@[simp] theorem sp71 : (("other" : Str) == ("apart" : Str)) = false := rfl
@[simp] theorem sq71 : (("other" : Str) = ("apart" : Str)) = False := eq_false (by decide)
@[simp] theorem sp72 : (("alike" : Str) == ("risk" : Str)) = false := rfl
@[simp] theorem sq72 : (("alike" : Str) = ("risk" : Str)) = False := eq_false (by decide)
@[simp] theorem sp73 : (("alike" : Str) == ("event" : Str)) = false := rfl
@[simp] theorem sq73 : (("alike" : Str) = ("event" : Str)) = False := eq_false (by decide)
@[simp] theorem sp74 : (("alike" : Str) == ("year" : Str)) = false := rfl
@[simp] theorem sq74 : (("alike" : Str) = ("year" : Str)) = False := eq_false (by decide)
@[simp] theorem sp75 : (("alike" : Str) == ("part" : Str)) = false := rfl
@[simp] theorem sq75 : (("alike" : Str) = ("part" : Str)) = False := eq_false (by decide)
@[simp] theorem sp76 : (("alike" : Str) == ("told" : Str)) = false := rfl
@[simp] theorem sq76 : (("alike" : Str) = ("told" : Str)) = False := eq_false (by decide)
@[simp] theorem sp77 : (("alike" : Str) == ("large" : Str)) = false := rfl
@[simp] theorem sq77 : (("alike" : Str) = ("large" : Str)) = False := eq_false (by decide)
@[simp] theorem sp78 : (("alike" : Str) == ("bad" : Str)) = false := rfl
@[simp] theorem sq78 : (("alike" : Str) = ("bad" : Str)) = False := eq_false (by decide)
@[simp] theorem sp79 : (("alike" : Str) == ("other" : Str)) = false := rfl
@[simp] theorem sq79 : (("alike" : Str) = ("other" : Str)) = False := eq_false (by decide)
@[simp] theorem sp80 : (("alike" : Str) == ("apart" : Str)) = false := rfl
@[simp] theorem sq80 : (("alike" : Str) = ("apart" : Str)) = False := eq_false (by decide)
@[simp] theorem sp81 : (("apart" : Str) == ("risk" : Str)) = false := rfl
@[simp] theorem sq81 : (("apart" : Str) = ("risk" : Str)) = False := eq_false (by decide)
@[simp] theorem sp82 : (("apart" : Str) == ("event" : Str)) = false := rfl
@[simp] theorem sq82 : (("apart" : Str) = ("event" : Str)) = False := eq_false (by decide)
@[simp] theorem sp83 : (("apart" : Str) == ("year" : Str)) = false := rfl
@[simp] theorem sq83 : (("apart" : Str) = ("year" : Str)) = False := eq_false (by decide)
@[simp] theorem sp84 : (("apart" : Str) == ("part" : Str)) = false := rfl
@[simp] theorem sq84 : (("apart" : Str) = ("part" : Str)) = False := eq_false (by decide)
@[simp] theorem sp85 : (("apart" : Str) == ("told" : Str)) = false := rfl
@[simp] theorem sq85 : (("apart" : Str) = ("told" : Str)) = False := eq_false (by decide)
@[simp] theorem sp86 : (("apart" : Str) == ("large" : Str)) = false := rfl
@[simp] theorem sq86 : (("apart" : Str) = ("large" : Str)) = False := eq_false (by decide)
@[simp] theorem sp87 : (("apart" : Str) == ("bad" : Str)) = false := rfl
@[simp] theorem sq87 : (("apart" : Str) = ("bad" : Str)) = False := eq_false (by decide)
@[simp] theorem sp88 : (("apart" : Str) == ("other" : Str)) = false := rfl
@[simp] theorem sq88 : (("apart" : Str) = ("other" : Str)) = False := eq_false (by decide)
@[simp] theorem sp89 : (("apart" : Str) == ("alike" : Str)) = false := rfl
@[simp] theorem sq89 : (("apart" : Str) = ("alike" : Str)) = False := eq_false (by decide)
structure Kd where
  t : Nat
  a : Int
  b : Int
  c : Int
  e : Int
def GK (k : Kd) : Prop := k.t ≤ 2 ∧ (0 ≤ k.a ∧ k.a ≤ 50) ∧ (0 ≤ k.b ∧ k.b ≤ 50) ∧ (0 ≤ k.c ∧ k.c ≤ 8) ∧ 0 ≤ k.e ∧ k.e ≤ 100000
def encK (u : Int) (k : Kd) : D := match k.t with
  | 0 => .tuple [.str "risk", .int (u * k.a), .int (u * k.b)]
  | 1 => .tuple [.str "event", .int (u * k.a), .int (u * k.b)]
  | _ => .tuple [.str "year", .int (u * k.a), .int (u * k.b), .int k.c, .int k.e]
def ly (k : Kd) : Ly := ⟨k.t, if k.t = 2 then k.a * (k.c + 1) else k.a, k.b⟩
def encLy (l : Ly) : D := .tuple [.int l.A, .int l.B]
theorem GK.g {k : Kd} (h : GK k) : GLy (ly k) := by
  obtain ⟨_, ⟨h1, _⟩, ⟨h2, _⟩, ⟨h3, _⟩, _⟩ := h
  refine ⟨?_, h2⟩
  show 0 ≤ if k.t = 2 then k.a * (k.c + 1) else k.a
  split
  · exact Int.mul_nonneg h1 (by omega)
  · exact h1
/-- units are from 1 to 10 ** 9 -/
def GU (u : Int) : Prop := 1 ≤ u ∧ u ≤ 1000000000
theorem GU.mul {u a : Int} (h : GU u) (ha : 0 ≤ a ∧ a ≤ 500) : 0 ≤ u * a ∧ u * a ≤ 500000000000 := by
  obtain ⟨h1, h2⟩ := h
  have e1 := Int.mul_nonneg (show 0 ≤ u by omega) ha.1
  have e2 := Int.mul_le_mul h2 ha.2 ha.1 (by omega)
  omega
theorem GU.ml {u a : Int} (h : GU u) (ha : 0 ≤ a ∧ a ≤ 500) : mulD (.int u) (.int a) = some (.int (u * a)) := by
  obtain ⟨h1, h2⟩ := h
  exact mulD_lt (Nat.lt_of_le_of_lt (show u.natAbs ≤ 1000000000 by omega) (by decide)) (Nat.lt_of_le_of_lt (show a.natAbs ≤ 500 by omega) (by decide))
theorem isNum_in {x a b : Int} (h : a ≤ x ∧ x ≤ b) : isNum (.int x) a b = true := by simp [isNum, h]
theorem encK_cases {k : Kd} (h : GK k) (u : Int) : (k.t = 0 ∧ encK u k = .tuple [.str "risk", .int (u * k.a), .int (u * k.b)]) ∨ (k.t = 1 ∧ encK u k = .tuple [.str "event", .int (u * k.a), .int (u * k.b)]) ∨ (k.t = 2 ∧ encK u k = .tuple [.str "year", .int (u * k.a), .int (u * k.b), .int k.c, .int k.e]) := by
  obtain ⟨h, _⟩ := h
  obtain ⟨t, a, b, c, e⟩ := k
  have : t = 0 ∨ t = 1 ∨ t = 2 := by simp only at h; omega
  rcases this with rfl | rfl | rfl
  · exact .inl ⟨rfl, rfl⟩
  · exact .inr (.inl ⟨rfl, rfl⟩)
  · exact .inr (.inr ⟨rfl, rfl⟩)
theorem is_money_ (d : D) : F_is_money [.d d] [] = .ok (.d (.bool (isNum d 0 1000000000000))) [] := by
  simp [F_is_money, B_is_money, is_number_]
theorem is_kind_ {u : Int} (hu : GU u) {k : Kd} (h : GK k) : F_is_kind [.d (encK u k)] [] = .ok (.d (.bool true)) [] := by
  have h' := h
  obtain ⟨_, ⟨a1, a2⟩, ⟨b1, b2⟩, ⟨c1, c2⟩, e1, e2⟩ := h'
  have m1 := hu.mul (a := k.a) (by omega)
  have m2 := hu.mul (a := k.b) (by omega)
  have n1 : isNum (.int (u * k.a)) 0 1000000000000 = true := isNum_in (by omega)
  have n2 : isNum (.int (u * k.b)) 0 1000000000000 = true := isNum_in (by omega)
  have n3 : isNum (.int k.c) 0 8 = true := isNum_in (by omega)
  have n4 : isNum (.int k.e) 0 100000 = true := isNum_in (by omega)
  rcases encK_cases h u with ⟨_, e⟩ | ⟨_, e⟩ | ⟨_, e⟩ <;> rw [e]
  · simp [F_is_kind, B_is_kind, is_money_, n1, n2]
  · simp [F_is_kind, B_is_kind, is_money_, n1, n2]
  · simp [F_is_kind, B_is_kind, is_money_, is_number_, n1, n2, n3, n4]
def tagS (k : Kd) : Str := match k.t with
  | 0 => "risk"
  | 1 => "event"
  | _ => "year"
theorem encK_eq {k : Kd} (h : GK k) (u : Int) : encK u k = .tuple (.str (tagS k) :: .int (u * k.a) :: .int (u * k.b) :: (if k.t = 2 then [.int k.c, .int k.e] else [])) := by
  obtain ⟨h, _⟩ := h
  obtain ⟨t, a, b, c, e⟩ := k
  have : t = 0 ∨ t = 1 ∨ t = 2 := by simp only at h; omega
  rcases this with rfl | rfl | rfl <;> rfl
theorem tag_cases {k : Kd} (h : GK k) : (k.t = 0 ∧ tagS k = "risk") ∨ (k.t = 1 ∧ tagS k = "event") ∨ (k.t = 2 ∧ tagS k = "year") := by
  obtain ⟨h, _⟩ := h
  obtain ⟨t, a, b, c, e⟩ := k
  have : t = 0 ∨ t = 1 ∨ t = 2 := by simp only at h; omega
  rcases this with rfl | rfl | rfl
  · exact .inl ⟨rfl, rfl⟩
  · exact .inr (.inl ⟨rfl, rfl⟩)
  · exact .inr (.inr ⟨rfl, rfl⟩)
theorem tag_risk {k : Kd} (h : GK k) : eqD (.str (tagS k)) (.str "risk") = some (decide (k.t = 0)) := by
  rcases tag_cases h with ⟨h1, h2⟩ | ⟨h1, h2⟩ | ⟨h1, h2⟩ <;> simp [h1, h2]
theorem tag_event {k : Kd} (h : GK k) : eqD (.str (tagS k)) (.str "event") = some (decide (k.t = 1)) := by
  rcases tag_cases h with ⟨h1, h2⟩ | ⟨h1, h2⟩ | ⟨h1, h2⟩ <;> simp [h1, h2]
theorem tag_yearN {k : Kd} (h : GK k) : neD (.str (tagS k)) (.str "year") = some (!decide (k.t = 2)) := by
  rcases tag_cases h with ⟨h1, h2⟩ | ⟨h1, h2⟩ | ⟨h1, h2⟩ <;> simp [h1, h2]
theorem tag_part {k : Kd} (h : GK k) : eqD (.str (tagS k)) (.str "part") = some false := by
  rcases tag_cases h with ⟨h1, h2⟩ | ⟨h1, h2⟩ | ⟨h1, h2⟩ <;> simp [h2]
theorem at_app (p : List D) (x : D) (r : List D) : atI (p ++ x :: r) (p.length : Nat) = some x := atI_of (n := p.length) rfl (by simp)
theorem ix_l {fo fi : List S → M S} {ρ : List S} {cs cs1 cs2 : Store} {xs : List D} {x : D} {k : Int} (h : fo ρ cs = .ok (.d (.list xs)) cs1) (hi : fi ρ cs1 = .ok (.d (.int k)) cs2) (hx : atI xs k = some x) : eBin ixD fo fi ρ cs = .ok (.d x) cs2 := bin_of h hi hx
theorem ix_t {fo fi : List S → M S} {ρ : List S} {cs cs1 cs2 : Store} {xs : List D} {x : D} {k : Int} (h : fo ρ cs = .ok (.d (.tuple xs)) cs1) (hi : fi ρ cs1 = .ok (.d (.int k)) cs2) (hx : atI xs k = some x) : eBin ixD fo fi ρ cs = .ok (.d x) cs2 := bin_of h hi hx
theorem clipped_ (v : Int) (l : Ly) : F_clipped [.d (.int v), .d (encLy l)] [] = .ok (.d (.int (clp l v))) [] := by
  have e : eqD (encLy l) (.tuple []) = some false := by
    rw [eqD_sh (by simp [SeqAt.shaped, encLy, PyData.canLay0, PyData.canLayAll0, PyData.depth, PyData.depthAll]) (by decide)]
    simp [encLy, PyData.eqv, PyData.eqvAll]
  simp only [encLy] at e ⊢
  simp [F_clipped, B_clipped, clp, e]
  try omega
theorem law_clip_ (v : Int) (l : Ly) : F__law_clip [.d (.int v), .d (encLy l)] [] = .ok (.d (.int (clp l v))) [] := by
  simp [F__law_clip, B__law_clip, clp, encLy]
  try omega
theorem eIf_y {t : List S → M Bool} {f g : List S → M S} {ρ : List S} {cs cs1 : Store} {r : Res S} (h1 : t ρ cs = .ok true cs1) (h2 : f ρ cs1 = r) : eIf t f g ρ cs = r := by
  unfold eIf; rw [bnd_ok h1]; exact h2
theorem eIf_n {t : List S → M Bool} {f g : List S → M S} {ρ : List S} {cs cs1 : Store} {r : Res S} (h1 : t ρ cs = .ok false cs1) (h2 : g ρ cs1 = r) : eIf t f g ρ cs = r := by
  unfold eIf; rw [bnd_ok h1]; exact h2
theorem minG_min (x y : Int) : minG [.int x, .int y] = some (.int (min x y)) := by
  rw [minG_]
  congr 2
  split <;> omega
theorem layer_of_ {u : Int} (hu : GU u) {k : Kd} (h : GK k) : F_layer_of [.d (encK u k)] [] = .ok (.d (encLy (sc u (ly k)))) [] := by
  obtain ⟨_, ⟨a1, a2⟩, ⟨b1, b2⟩, ⟨c1, c2⟩, e1, e2⟩ := id h
  have m1 := hu.mul (a := k.a) (by omega)
  have ml : mulD (.int (u * k.a)) (.int (k.c + 1)) = some (.int (u * k.a * (k.c + 1))) := mulD_lt (Nat.lt_of_le_of_lt (show (u * k.a).natAbs ≤ 500000000000 by omega) (by decide)) (Nat.lt_of_le_of_lt (show (k.c + 1).natAbs ≤ 9 by omega) (by decide))
  rcases encK_cases h u with ⟨t, e⟩ | ⟨t, e⟩ | ⟨t, e⟩ <;> rw [e]
  · simp [F_layer_of, B_layer_of, encLy, sc, ly, t]
  · simp [F_layer_of, B_layer_of, encLy, sc, ly, t]
  · simp [F_layer_of, B_layer_of, encLy, sc, ly, t, -mulD_int]
    rw [ml]
    simp [Int.mul_assoc]
theorem law_layer_ {u : Int} (hu : GU u) {k : Kd} (h : GK k) : F__law_layer [.d (encK u k)] [] = .ok (.d (encLy (sc u (ly k)))) [] := by
  obtain ⟨_, ⟨a1, a2⟩, ⟨b1, b2⟩, ⟨c1, c2⟩, e1, e2⟩ := id h
  have m1 := hu.mul (a := k.a) (by omega)
  have ml : mulD (.int (u * k.a)) (.int (1 + k.c)) = some (.int (u * k.a * (1 + k.c))) := mulD_lt (Nat.lt_of_le_of_lt (show (u * k.a).natAbs ≤ 500000000000 by omega) (by decide)) (Nat.lt_of_le_of_lt (show (1 + k.c).natAbs ≤ 9 by omega) (by decide))
  rcases encK_cases h u with ⟨t, e⟩ | ⟨t, e⟩ | ⟨t, e⟩ <;> rw [e]
  · simp [F__law_layer, B__law_layer, encLy, sc, ly, t]
  · simp [F__law_layer, B__law_layer, encLy, sc, ly, t]
  · simp [F__law_layer, B__law_layer, encLy, sc, ly, t, -mulD_int]
    rw [ml]
    simp [Int.mul_assoc, Int.add_comm]
/-- what is taken: one member -/
theorem taken_step {u : Int} {k : Kd} (hk : GK k) {l : Ly} (hl : l.t = k.t) {TT LL SS : List D} {s n b : Int} {j : Nat} (h1 : atI TT (j : Nat) = some (encK u k)) (h2 : atI LL (j : Nat) = some (encLy l)) (h3 : atI SS (j : Nat) = some (.int s)) (s3 s8 s9 : S) (acc : List Int) (ha : acc.length < 1000) :
    ((gSeq (sSet 8 (eIf (tOrM (op2 eqD (eBin ixD (eBin ixD (eV 0) (eV 7)) (eC (.int (0)))) (eC (.str "risk"))) (tAndM (op2 eqD (eBin ixD (eBin ixD (eV 0) (eV 7)) (eC (.int (0)))) (eC (.str "event"))) (op2 eqD (eV 4) (eC (.int (1)))))) (eC (.int (0))) (eBin ixD (eV 2) (eV 7))))
      (gSeq (sSet 9 (eBin subD (eFrz (eCall F_clipped (aCons (eBin addD (eV 8) (eV 6)) (aCons (eBin ixD (eV 1) (eV 7)) aNil)))) (eFrz (eCall F_clipped (aCons (eV 8) (aCons (eBin ixD (eV 1) (eV 7)) aNil))))))
      (gSeq (sExp (eMt appG (eV 5) (aCons (eIf (op2 eqD (eBin ixD (eBin ixD (eV 0) (eV 7)) (eC (.int (0)))) (eC (.str "risk"))) (eC (.int (0))) (eCd minG (aCons (eBin addD (eV 8) (eV 6)) (aCons (eBin addD (eBin ixD (eBin ixD (eV 1) (eV 7)) (eC (.int (0)))) (eBin ixD (eBin ixD (eV 1) (eV 7)) (eC (.int (1))))) aNil)))) aNil)))
      (sSet 6 (eBin subD (eV 6) (eV 9))))))) [.d (.tuple TT), .d (.list LL), .d (.tuple SS), s3, .d (.int b), .cel 0, .d (.int n), .d (.int (j : Nat)), s8, s9] [.lst (acc.map .int)] = .nx [.d (.tuple TT), .d (.list LL), .d (.tuple SS), s3, .d (.int b), .cel 0, .d (.int (n - (clp l (bfr l s b + n) - clp l (bfr l s b)))), .d (.int (j : Nat)), .d (.int (bfr l s b)), .d (.int (clp l (bfr l s b + n) - clp l (bfr l s b)))] [.lst ((acc ++ [if l.t = 0 then 0 else min (bfr l s b + n) (l.A + l.B)]).map .int)] := by
  have tg : ∀ (ρ : List S) (cs : Store), ρ[0]? = some (.d (.tuple TT)) → ρ[7]? = some (.d (.int (j : Nat))) → eBin ixD (eBin ixD (eV 0) (eV 7)) (eC (.int (0))) ρ cs = .ok (.d (.str (tagS k))) cs := fun ρ cs h0 h7 =>
    ix_t (xs := .str (tagS k) :: .int (u * k.a) :: .int (u * k.b) :: (if k.t = 2 then [.int k.c, .int k.e] else [])) (by rw [← encK_eq hk u]; exact ix_t (eV_ofP h0) (eV_ofP h7) h1) rfl (atI0 _ _)
  have b8 : (sSet 8 (eIf (tOrM (op2 eqD (eBin ixD (eBin ixD (eV 0) (eV 7)) (eC (.int (0)))) (eC (.str "risk"))) (tAndM (op2 eqD (eBin ixD (eBin ixD (eV 0) (eV 7)) (eC (.int (0)))) (eC (.str "event"))) (op2 eqD (eV 4) (eC (.int (1)))))) (eC (.int (0))) (eBin ixD (eV 2) (eV 7)))) [.d (.tuple TT), .d (.list LL), .d (.tuple SS), s3, .d (.int b), .cel 0, .d (.int n), .d (.int (j : Nat)), s8, s9] [.lst (acc.map .int)] = .nx [.d (.tuple TT), .d (.list LL), .d (.tuple SS), s3, .d (.int b), .cel 0, .d (.int n), .d (.int (j : Nat)), .d (.int (bfr l s b)), s9] [.lst (acc.map .int)] := by
    refine sSet_to (v := .d (.int (bfr l s b))) ?_ rfl
    have r1 := op2_of (g := eqD) (tg [.d (.tuple TT), .d (.list LL), .d (.tuple SS), s3, .d (.int b), .cel 0, .d (.int n), .d (.int (j : Nat)), s8, s9] [.lst (acc.map .int)] rfl rfl) (show eC (.str "risk") _ _ = .ok (.d (.str "risk")) _ from rfl) (tag_risk hk)
    have r2 := op2_of (g := eqD) (tg [.d (.tuple TT), .d (.list LL), .d (.tuple SS), s3, .d (.int b), .cel 0, .d (.int n), .d (.int (j : Nat)), s8, s9] [.lst (acc.map .int)] rfl rfl) (show eC (.str "event") _ _ = .ok (.d (.str "event")) _ from rfl) (tag_event hk)
    have r3 : op2 eqD (eV 4) (eC (.int (1))) [.d (.tuple TT), .d (.list LL), .d (.tuple SS), s3, .d (.int b), .cel 0, .d (.int n), .d (.int (j : Nat)), s8, s9] [.lst (acc.map .int)] = .ok (decide (b = 1)) [.lst (acc.map .int)] := op2_of (eV_ofP rfl) rfl (by rw [eqD_int]; rfl)
    have iy := ix_t (fo := eV 2) (fi := eV 7) (ρ := [.d (.tuple TT), .d (.list LL), .d (.tuple SS), s3, .d (.int b), .cel 0, .d (.int n), .d (.int (j : Nat)), s8, s9]) (cs := [.lst (acc.map .int)]) (eV_ofP rfl) (eV_ofP rfl) h3
    unfold bfr
    rw [hl]
    by_cases c0 : k.t = 0
    · rw [decide_eq_true c0] at r1
      rw [if_pos (.inl c0)]
      exact eIf_y (tOr_l r1) rfl
    · rw [decide_eq_false c0] at r1
      by_cases c1 : k.t = 1
      · rw [decide_eq_true c1] at r2
        by_cases cb : b = 1
        · rw [decide_eq_true cb] at r3
          rw [if_pos (.inr ⟨c1, cb⟩)]
          exact eIf_y (tOr_r r1 (tAnd_r r2 r3)) rfl
        · rw [decide_eq_false cb] at r3
          rw [if_neg (fun z => z.elim c0 fun z => cb z.2)]
          exact eIf_n (tOr_r r1 (tAnd_r r2 r3)) iy
      · rw [decide_eq_false c1] at r2
        rw [if_neg (fun z => z.elim c0 fun z => c1 z.1)]
        exact eIf_n (tOr_r r1 (tAnd_l r2)) iy
  generalize bfr l s b = x at *
  have ly8 : ∀ (s9 : S), eBin ixD (eV 1) (eV 7) [.d (.tuple TT), .d (.list LL), .d (.tuple SS), s3, .d (.int b), .cel 0, .d (.int n), .d (.int (j : Nat)), .d (.int x), s9] [.lst (acc.map .int)] = .ok (.d (encLy l)) [.lst (acc.map .int)] := fun s9 => ix_l (eV_ofP rfl) (eV_ofP rfl) h2
  have b9 : (sSet 9 (eBin subD (eFrz (eCall F_clipped (aCons (eBin addD (eV 8) (eV 6)) (aCons (eBin ixD (eV 1) (eV 7)) aNil)))) (eFrz (eCall F_clipped (aCons (eV 8) (aCons (eBin ixD (eV 1) (eV 7)) aNil)))))) [.d (.tuple TT), .d (.list LL), .d (.tuple SS), s3, .d (.int b), .cel 0, .d (.int n), .d (.int (j : Nat)), .d (.int x), s9] [.lst (acc.map .int)] = .nx [.d (.tuple TT), .d (.list LL), .d (.tuple SS), s3, .d (.int b), .cel 0, .d (.int n), .d (.int (j : Nat)), .d (.int x), .d (.int (clp l (x + n) - clp l x))] [.lst (acc.map .int)] :=
    sSet_to (bin_of (frz_x (eCall_d (ss := [.d (.int (x + n)), .d (encLy l)]) (aCons_of (bin_of (eV_ofP rfl) (eV_ofP rfl) (addD_int _ _)) (aLast (ly8 s9))) rfl (clipped_ _ l))) (frz_x (eCall_d (ss := [.d (.int x), .d (encLy l)]) (aCons_of (eV_ofP rfl) (aLast (ly8 s9))) rfl (clipped_ _ l))) (subD_int _ _)) rfl
  generalize clp l (x + n) - clp l x = y at *
  have b5 : (sExp (eMt appG (eV 5) (aCons (eIf (op2 eqD (eBin ixD (eBin ixD (eV 0) (eV 7)) (eC (.int (0)))) (eC (.str "risk"))) (eC (.int (0))) (eCd minG (aCons (eBin addD (eV 8) (eV 6)) (aCons (eBin addD (eBin ixD (eBin ixD (eV 1) (eV 7)) (eC (.int (0)))) (eBin ixD (eBin ixD (eV 1) (eV 7)) (eC (.int (1))))) aNil)))) aNil))) [.d (.tuple TT), .d (.list LL), .d (.tuple SS), s3, .d (.int b), .cel 0, .d (.int n), .d (.int (j : Nat)), .d (.int x), .d (.int y)] [.lst (acc.map .int)] = .nx [.d (.tuple TT), .d (.list LL), .d (.tuple SS), s3, .d (.int b), .cel 0, .d (.int n), .d (.int (j : Nat)), .d (.int x), .d (.int y)] [.lst ((acc ++ [if l.t = 0 then 0 else min (x + n) (l.A + l.B)]).map .int)] := by
    have r1 := op2_of (g := eqD) (tg [.d (.tuple TT), .d (.list LL), .d (.tuple SS), s3, .d (.int b), .cel 0, .d (.int n), .d (.int (j : Nat)), .d (.int x), .d (.int y)] [.lst (acc.map .int)] rfl rfl) (show eC (.str "risk") _ _ = .ok (.d (.str "risk")) _ from rfl) (tag_risk hk)
    have ev : eIf (op2 eqD (eBin ixD (eBin ixD (eV 0) (eV 7)) (eC (.int (0)))) (eC (.str "risk"))) (eC (.int (0))) (eCd minG (aCons (eBin addD (eV 8) (eV 6)) (aCons (eBin addD (eBin ixD (eBin ixD (eV 1) (eV 7)) (eC (.int (0)))) (eBin ixD (eBin ixD (eV 1) (eV 7)) (eC (.int (1))))) aNil))) [.d (.tuple TT), .d (.list LL), .d (.tuple SS), s3, .d (.int b), .cel 0, .d (.int n), .d (.int (j : Nat)), .d (.int x), .d (.int y)] [.lst (acc.map .int)] = .ok (.d (.int (if l.t = 0 then 0 else min (x + n) (l.A + l.B)))) [.lst (acc.map .int)] := by
      rw [hl]
      by_cases c0 : k.t = 0
      · rw [decide_eq_true c0] at r1
        rw [if_pos c0]
        exact eIf_y r1 rfl
      · rw [decide_eq_false c0] at r1
        rw [if_neg c0]
        exact eIf_n r1 (eCd2 (bin_of (eV_ofP rfl) (eV_ofP rfl) (addD_int _ _)) (bin_of (ix_t (ly8 _) rfl rfl) (ix_t (ly8 _) rfl rfl) (addD_int _ _)) (minG_min _ _))
    have ap := app_cel (i := 5) (j := 0) (xs := acc.map .int) ev rfl rfl rfl (by rw [List.length_map]; omega)
    rw [List.map_append]
    exact ap
  exact seq_nx b8 (seq_nx b9 (seq_nx b5 (sSet_to (bin_of (eV_ofP rfl) (eV_ofP rfl) (subD_int _ _)) rfl)))
theorem cd_c {g : List D → Option D} {fo : List S → M S} {ρ : List S} {cs cs1 : Store} {j : Nat} {xs : List D} {z : D} (ho : fo ρ cs = .ok (.cel j) cs1) (hc : cs1[j]? = some (.lst xs)) (hg : g [.list xs] = some z) : eCd g (aCons fo aNil) ρ cs = .ok (.d z) cs1 := by
  rw [eCd_, bnd_ok (aLast ho)]
  rw [bnd_ok (vws_c hc)]
  show bnd (ofO (g [.list xs])) (fun d => ret (S.d d)) cs1 = _
  rw [hg]
  rfl
theorem tkP_len : ∀ (T : List Ly) (ss : List Int) (n b : Int), T.length = ss.length → (tkP T ss n b).1.length = T.length
  | [], _, _, _, _ => rfl
  | _ :: _, [], _, _, h => by simp at h
  | l :: T, s :: ss, n, b, h => by
    show (tkP T ss _ b).1.length + 1 = _
    rw [tkP_len T ss _ b (by simpa using h)]; rfl
theorem tkL_len : ∀ (T : List Ly) (ss : List Int) (n b : Int), T.length = ss.length → (tkL T ss n b).1.length = T.length
  | [], _, _, _, _ => rfl
  | _ :: _, [], _, _, h => by simp at h
  | l :: T, s :: ss, n, b, h => by
    show (tkL T ss _ b).1.length + 1 = _
    rw [tkL_len T ss _ b (by simpa using h)]; rfl
theorem taken_loop (u b : Int) (s3 : S) : ∀ (kr : List Kd) (lr : List Ly) (sr : List Int) (tp lp sp : List D) (n : Int) (acc : List Int) (s7 s8 s9 : S), (∀ k ∈ kr, GK k) → kr.map (·.t) = lr.map (·.t) → kr.length = sr.length → lp.length = tp.length → sp.length = tp.length → acc.length + kr.length < 1000 →
    ∃ t7 t8 t9, gFor (gtN 7) ((gSeq (sSet 8 (eIf (tOrM (op2 eqD (eBin ixD (eBin ixD (eV 0) (eV 7)) (eC (.int (0)))) (eC (.str "risk"))) (tAndM (op2 eqD (eBin ixD (eBin ixD (eV 0) (eV 7)) (eC (.int (0)))) (eC (.str "event"))) (op2 eqD (eV 4) (eC (.int (1)))))) (eC (.int (0))) (eBin ixD (eV 2) (eV 7))))
      (gSeq (sSet 9 (eBin subD (eFrz (eCall F_clipped (aCons (eBin addD (eV 8) (eV 6)) (aCons (eBin ixD (eV 1) (eV 7)) aNil)))) (eFrz (eCall F_clipped (aCons (eV 8) (aCons (eBin ixD (eV 1) (eV 7)) aNil))))))
      (gSeq (sExp (eMt appG (eV 5) (aCons (eIf (op2 eqD (eBin ixD (eBin ixD (eV 0) (eV 7)) (eC (.int (0)))) (eC (.str "risk"))) (eC (.int (0))) (eCd minG (aCons (eBin addD (eV 8) (eV 6)) (aCons (eBin addD (eBin ixD (eBin ixD (eV 1) (eV 7)) (eC (.int (0)))) (eBin ixD (eBin ixD (eV 1) (eV 7)) (eC (.int (1))))) aNil)))) aNil)))
      (sSet 6 (eBin subD (eV 6) (eV 9))))))) (upTo tp.length kr.length) [.d (.tuple (tp ++ kr.map (encK u))), .d (.list (lp ++ lr.map encLy)), .d (.tuple (sp ++ sr.map .int)), s3, .d (.int b), .cel 0, .d (.int n), s7, s8, s9] [.lst (acc.map .int)] = .nx [.d (.tuple (tp ++ kr.map (encK u))), .d (.list (lp ++ lr.map encLy)), .d (.tuple (sp ++ sr.map .int)), s3, .d (.int b), .cel 0, .d (.int (tkP lr sr n b).2), t7, t8, t9] [.lst ((acc ++ (tkP lr sr n b).1).map .int)]
  | [], lr, sr, tp, lp, sp, n, acc, s7, s8, s9, _, h2, h3, _, _, _ => by
    have e1 : lr = [] := by simpa using h2.symm
    have e2 : sr = [] := List.length_eq_zero_iff.1 h3.symm
    subst e1 e2
    exact ⟨s7, s8, s9, by simp [tkP]; rfl⟩
  | k :: kr, [], _, _, _, _, _, _, _, _, _, _, h2, _, _, _, _ => by simp at h2
  | k :: kr, _ :: _, [], _, _, _, _, _, _, _, _, _, _, h3, _, _, _ => by simp at h3
  | k :: kr, l :: lr, s :: sr, tp, lp, sp, n, acc, s7, s8, s9, h1, h2, h3, h4, h5, h6 => by
    simp only [List.map_cons, List.cons.injEq] at h2
    simp only [List.length_cons] at h3 h6
    have st := taken_step (u := u) (h1 k List.mem_cons_self) (l := l) h2.1.symm (TT := tp ++ encK u k :: kr.map (encK u)) (LL := lp ++ encLy l :: lr.map encLy) (SS := sp ++ .int s :: sr.map .int) (s := s) (n := n) (b := b) (j := tp.length) (at_app _ _ _) (by rw [← h4]; exact at_app _ _ _) (by rw [← h5]; exact at_app _ _ _) s3 s8 s9 acc (by omega)
    obtain ⟨t7, t8, t9, f⟩ := taken_loop u b s3 kr lr sr (tp ++ [encK u k]) (lp ++ [encLy l]) (sp ++ [.int s]) (n - (clp l (bfr l s b + n) - clp l (bfr l s b))) (acc ++ [if l.t = 0 then 0 else min (bfr l s b + n) (l.A + l.B)]) (.d (.int (tp.length : Nat))) (.d (.int (bfr l s b))) (.d (.int (clp l (bfr l s b + n) - clp l (bfr l s b)))) (fun x hx => h1 x (List.mem_cons_of_mem _ hx)) h2.2 (by omega) (by simp [h4]) (by simp [h5]) (by simp; omega)
    refine ⟨t7, t8, t9, ?_⟩
    rw [List.length_append, List.length_singleton] at f
    simp only [List.append_assoc, List.singleton_append] at f
    have e1 : tkP (l :: lr) (s :: sr) n b = ((if l.t = 0 then 0 else min (bfr l s b + n) (l.A + l.B)) :: (tkP lr sr (n - (clp l (bfr l s b + n) - clp l (bfr l s b))) b).1, (tkP lr sr (n - (clp l (bfr l s b + n) - clp l (bfr l s b))) b).2) := rfl
    rw [e1]
    generalize tkP lr sr (n - (clp l (bfr l s b + n) - clp l (bfr l s b))) b = R at *
    generalize (if l.t = 0 then 0 else min (bfr l s b + n) (l.A + l.B)) = y at *
    simp only [List.map_cons, List.length_cons]
    generalize tp ++ encK u k :: kr.map (encK u) = T1 at *
    generalize lp ++ encLy l :: lr.map encLy = T2 at *
    generalize sp ++ PyData.int s :: sr.map .int = T3 at *
    exact for_step (ρ' := [.d (.tuple T1), .d (.list T2), .d (.tuple T3), s3, .d (.int b), .cel 0, .d (.int n), .d (.int (tp.length : Nat)), s8, s9]) rfl (.inl st) f
theorem taken_ {u : Int} {ks : List Kd} {Ls : List Ly} {ss : List Int} (h1 : ∀ k ∈ ks, GK k) (h2 : ks.map (·.t) = Ls.map (·.t)) (h3 : ks.length = ss.length) (h4 : ks.length < 900) (n b : Int) :
    F_taken [.d (.tuple (ks.map (encK u))), .d (.list (Ls.map encLy)), .d (.tuple (ss.map .int)), .d (.int n), .d (.int b)] [] = .ok (.d (.tuple [.tuple ((tkP Ls ss n b).1.map .int), .int (tkP Ls ss n b).2])) [] := by
  obtain ⟨t7, t8, t9, f⟩ := taken_loop u b (.d (.int n)) ks Ls ss [] [] [] n [] .no .no .no h1 h2 h3 rfl rfl (show 0 + ks.length < 1000 by omega)
  simp only [List.nil_append, List.length_nil] at f
  have hl : (tkP Ls ss n b).1.length = ks.length := by
    have : ks.length = Ls.length := by simpa using congrArg List.length h2
    rw [tkP_len _ _ _ _ (by omega)]; omega
  have b5 : (sNew 5 (eLst aNil)) [.d (.tuple (ks.map (encK u))), .d (.list (Ls.map encLy)), .d (.tuple (ss.map .int)), .d (.int n), .d (.int b), .no, .no, .no, .no, .no] [] = .nx [.d (.tuple (ks.map (encK u))), .d (.list (Ls.map encLy)), .d (.tuple (ss.map .int)), .d (.int n), .d (.int b), .cel 0, .no, .no, .no, .no] [.lst []] := sNew_lst (o := .lst []) (cs' := []) (eLst_ofP rfl rfl (by simp)) rfl
  have b6 : (sSet 6 (eV 3)) [.d (.tuple (ks.map (encK u))), .d (.list (Ls.map encLy)), .d (.tuple (ss.map .int)), .d (.int n), .d (.int b), .cel 0, .no, .no, .no, .no] [.lst []] = .nx [.d (.tuple (ks.map (encK u))), .d (.list (Ls.map encLy)), .d (.tuple (ss.map .int)), .d (.int n), .d (.int b), .cel 0, .d (.int n), .no, .no, .no] [.lst []] := sSet_to (eV_ofP rfl) rfl
  have b7 : (sFor (gtN 7) (iRng (eCd lenG (aCons (eV 0) aNil))) (gSeq (sSet 8 (eIf (tOrM (op2 eqD (eBin ixD (eBin ixD (eV 0) (eV 7)) (eC (.int (0)))) (eC (.str "risk"))) (tAndM (op2 eqD (eBin ixD (eBin ixD (eV 0) (eV 7)) (eC (.int (0)))) (eC (.str "event"))) (op2 eqD (eV 4) (eC (.int (1)))))) (eC (.int (0))) (eBin ixD (eV 2) (eV 7))))
      (gSeq (sSet 9 (eBin subD (eFrz (eCall F_clipped (aCons (eBin addD (eV 8) (eV 6)) (aCons (eBin ixD (eV 1) (eV 7)) aNil)))) (eFrz (eCall F_clipped (aCons (eV 8) (aCons (eBin ixD (eV 1) (eV 7)) aNil))))))
      (gSeq (sExp (eMt appG (eV 5) (aCons (eIf (op2 eqD (eBin ixD (eBin ixD (eV 0) (eV 7)) (eC (.int (0)))) (eC (.str "risk"))) (eC (.int (0))) (eCd minG (aCons (eBin addD (eV 8) (eV 6)) (aCons (eBin addD (eBin ixD (eBin ixD (eV 1) (eV 7)) (eC (.int (0)))) (eBin ixD (eBin ixD (eV 1) (eV 7)) (eC (.int (1))))) aNil)))) aNil)))
      (sSet 6 (eBin subD (eV 6) (eV 9))))))) [.d (.tuple (ks.map (encK u))), .d (.list (Ls.map encLy)), .d (.tuple (ss.map .int)), .d (.int n), .d (.int b), .cel 0, .d (.int n), .no, .no, .no] [.lst []] = .nx [.d (.tuple (ks.map (encK u))), .d (.list (Ls.map encLy)), .d (.tuple (ss.map .int)), .d (.int n), .d (.int b), .cel 0, .d (.int (tkP Ls ss n b).2), t7, t8, t9] [.lst ((tkP Ls ss n b).1.map .int)] := by
    refine for_of (xs := upTo 0 ks.length) ?_ f
    rw [← rng_upTo]
    exact iRng_n (n := ks.length) (eCd1 (x := .tuple (ks.map (encK u))) (eV_ofP rfl) (by show some (PyData.int ((ks.map (encK u)).length : Nat)) = _; rw [List.length_map])) (by omega)
  have rt : (sRet (eRv (eTup (aCons (eCd tupleG (aCons (eV 5) aNil)) (aCons (eV 6) aNil))))) [.d (.tuple (ks.map (encK u))), .d (.list (Ls.map encLy)), .d (.tuple (ss.map .int)), .d (.int n), .d (.int b), .cel 0, .d (.int (tkP Ls ss n b).2), t7, t8, t9] [.lst ((tkP Ls ss n b).1.map .int)] = .rt (.d (.tuple [.tuple ((tkP Ls ss n b).1.map .int), .int (tkP Ls ss n b).2])) [.lst ((tkP Ls ss n b).1.map .int)] := by
    refine sRet_of (eRv_d (eTup_ofP (ss := [.d (.tuple ((tkP Ls ss n b).1.map .int)), .d (.int (tkP Ls ss n b).2)]) (aCons_of (cd_c (g := tupleG) (j := 0) (xs := (tkP Ls ss n b).1.map .int) (eV_cel rfl) rfl ?_) (aLast (eV_ofP rfl))) rfl (by simp)))
    rfl
  unfold F_taken
  exact run_of (seq_nx b5 (seq_nx b6 (seq_nx b7 rt))) rfl
local macro_rules | `(tactic| walk_at "call") => `(tactic| with_reducible exact law_clip_ _ _)
local macro_rules | `(tactic| walk_at "call") => `(tactic| with_reducible exact clipped_ _ _)
theorem ltake_step {u : Int} (hu : GU u) {k : Kd} (hk : GK k) {TT SS : List D} {s n b : Int} {j : Nat} (h1 : atI TT (j : Nat) = some (encK u k)) (h3 : atI SS (j : Nat) = some (.int s)) (s6 s7 : S) (acc : List Int) (ha : acc.length < 1000) :
    ((gSeq (sSet 6 (eFrz (eCall F__law_layer (aCons (eBin ixD (eV 0) (eV 5)) aNil))))
      (gSeq (sSet 7 (eBin ixD (eV 1) (eV 5)))
      (gSeq (sIf (tOrM (op2 eqD (eBin ixD (eBin ixD (eV 0) (eV 5)) (eC (.int (0)))) (eC (.str "risk"))) (tAndM (op2 eqD (eBin ixD (eBin ixD (eV 0) (eV 5)) (eC (.int (0)))) (eC (.str "event"))) (op2 eqD (eV 3) (eC (.int (1)))))) (sSet 7 (eC (.int (0)))) gNil)
      (gSeq (sExp (eMt appG (eV 4) (aCons (eIf (op2 eqD (eBin ixD (eBin ixD (eV 0) (eV 5)) (eC (.int (0)))) (eC (.str "risk"))) (eC (.int (0))) (eBin addD (eV 7) (eV 2))) aNil)))
      (sSet 2 (eBin subD (eV 2) (eBin subD (eFrz (eCall F__law_clip (aCons (eBin addD (eV 7) (eV 2)) (aCons (eV 6) aNil)))) (eFrz (eCall F__law_clip (aCons (eV 7) (aCons (eV 6) aNil)))))))))))) [.d (.tuple TT), .d (.list SS), .d (.int n), .d (.int b), .cel 0, .d (.int (j : Nat)), s6, s7] [.lst (acc.map .int)] = .nx [.d (.tuple TT), .d (.list SS), .d (.int (n - (clp (sc u (ly k)) (bfr (ly k) s b + n) - clp (sc u (ly k)) (bfr (ly k) s b)))), .d (.int b), .cel 0, .d (.int (j : Nat)), .d (encLy (sc u (ly k))), .d (.int (bfr (ly k) s b))] [.lst ((acc ++ [if (ly k).t = 0 then 0 else bfr (ly k) s b + n]).map .int)] := by
  have hl := law_layer_ hu hk
  rw [encK_eq hk u] at h1 hl
  have r1 := tag_risk hk
  have r2 := tag_event hk
  unfold bfr
  rw [show (ly k).t = k.t from rfl, List.map_append]
  by_cases c0 : k.t = 0
  · simp only [c0, true_or, if_true] at r1 r2 ⊢
    walk_at "st"
    walk_at "end"
  · by_cases c1 : k.t = 1 ∧ b = 1
    · simp only [c0, c1, and_self, or_true, if_true, if_false]
      walk_at "st"
      walk_at "end"
    · simp only [c0, c1, or_self, if_false]
      walk_at "st"
      walk_at "end"
theorem drop_cons {α : Type} {xs : List α} {p : Nat} (h : p < xs.length) : xs.drop p = xs[p] :: xs.drop (p + 1) := List.drop_eq_getElem_cons h
theorem at_map {α : Type} {xs : List α} (e : α → D) {p : Nat} (h : p < xs.length) : atI (xs.map e) (p : Nat) = some (e xs[p]) := at_nat (by simp [h])
theorem law_take_ {u : Int} (hu : GU u) {ks : List Kd} {ss : List Int} (hk : ∀ k ∈ ks, GK k) (hl : ks.length = ss.length) (hn : ks.length < 900) (n b : Int) :
    F__law_take [.d (.tuple (ks.map (encK u))), .d (.list (ss.map .int)), .d (.int n), .d (.int b)] [] = .ok (.d (.list [.list ((tkL (ks.map fun k => sc u (ly k)) ss n b).1.map .int), .int (tkL (ks.map fun k => sc u (ly k)) ss n b).2])) [] := by
  generalize hL : (ks.map fun k => sc u (ly k)) = Ls
  have hLl : Ls.length = ks.length := by rw [← hL, List.length_map]
  obtain ⟨ρ2, cs2, e1, n', acc, s5, s6, s7, rfl, rfl, ha, h1, h2⟩ := rng_inv (tg := gtN 5) (g := (gSeq (sSet 6 (eFrz (eCall F__law_layer (aCons (eBin ixD (eV 0) (eV 5)) aNil))))
      (gSeq (sSet 7 (eBin ixD (eV 1) (eV 5)))
      (gSeq (sIf (tOrM (op2 eqD (eBin ixD (eBin ixD (eV 0) (eV 5)) (eC (.int (0)))) (eC (.str "risk"))) (tAndM (op2 eqD (eBin ixD (eBin ixD (eV 0) (eV 5)) (eC (.int (0)))) (eC (.str "event"))) (op2 eqD (eV 3) (eC (.int (1)))))) (sSet 7 (eC (.int (0)))) gNil)
      (gSeq (sExp (eMt appG (eV 4) (aCons (eIf (op2 eqD (eBin ixD (eBin ixD (eV 0) (eV 5)) (eC (.int (0)))) (eC (.str "risk"))) (eC (.int (0))) (eBin addD (eV 7) (eV 2))) aNil)))
      (sSet 2 (eBin subD (eV 2) (eBin subD (eFrz (eCall F__law_clip (aCons (eBin addD (eV 7) (eV 2)) (aCons (eV 6) aNil)))) (eFrz (eCall F__law_clip (aCons (eV 7) (aCons (eV 6) aNil)))))))))))) (fun p ρ cs => ∃ n' acc s5 s6 s7, ρ = [.d (.tuple (ks.map (encK u))), .d (.list (ss.map .int)), .d (.int n'), .d (.int b), .cel 0, s5, s6, s7] ∧ cs = [.lst (acc.map .int)] ∧ acc.length = p ∧ acc ++ (tkL (Ls.drop p) (ss.drop p) n' b).1 = (tkL Ls ss n b).1 ∧ (tkL (Ls.drop p) (ss.drop p) n' b).2 = (tkL Ls ss n b).2) (ks.map (encK u)).length 0 [.d (.tuple (ks.map (encK u))), .d (.list (ss.map .int)), .d (.int n), .d (.int b), .cel 0, .no, .no, .no] [.lst []] ⟨n, [], .no, .no, .no, rfl, rfl, rfl, rfl, rfl⟩ (by
      rintro p ρ cs _ hp ⟨n', acc, s5, s6, s7, rfl, rfl, ha, h1, h2⟩
      rw [List.length_map] at hp
      have hp1 : p < ks.length := by omega
      have hp2 : p < ss.length := by omega
      have hp3 : p < Ls.length := by omega
      have eL : Ls[p] = sc u (ly ks[p]) := by simp only [← hL, List.getElem_map]
      refine ⟨_, _, _, rfl, .inl (ltake_step hu (hk _ (List.getElem_mem hp1)) (at_map _ hp1) (at_map _ hp2) s6 s7 acc (by omega)), _, _, _, _, _, rfl, rfl, by simp [ha], ?_, ?_⟩
      · rw [← h1, drop_cons hp3, drop_cons hp2, eL, List.append_assoc]
        rfl
      · rw [← h2, drop_cons hp3, drop_cons hp2, eL]
        rfl)
  rw [Nat.zero_add, List.length_map] at h1 h2
  rw [List.drop_eq_nil_of_le (by omega), List.drop_eq_nil_of_le (by omega)] at h1 h2
  have e3 : acc = (tkL Ls ss n b).1 := by rw [← h1]; exact (List.append_nil _).symm
  have e4 : n' = (tkL Ls ss n b).2 := h2
  subst e3 e4
  unfold F__law_take B__law_take
  refine q_run (by walk_at "rep") (r := .cp 0 (.int (tkL Ls ss n b).2)) (cs1 := [.lst ((tkL Ls ss n b).1.map .int)]) ?_ rfl rfl
  walk_at "st"
  walk_at "end"
theorem mulE_zeros (n : Nat) (h : n ≤ 1000) : mulE (.tuple [.int 0]) (.int (n : Nat)) = some (.tuple ((List.replicate n (0 : Int)).map .int)) := by
  rw [mulE_tuple, if_pos (by refine ⟨by omega, by omega, ?_⟩; simp; omega)]
  simp
local macro_rules | `(tactic| walk_at "opx") => `(tactic| ((with_reducible apply mulE_zeros); first | omega | (simp; omega)))
def GT (ks : List Kd) : Prop := (∀ k ∈ ks, GK k) ∧ ks.length ≤ 4
theorem tag_ix {u : Int} {k : Kd} (hk : GK k) : ixD (encK u k) (.int 0) = some (.str (tagS k)) := by
  rw [encK_eq hk u]
  exact atI0 _ _
theorem tup_yes {xs : List D} {a b : Int} (h : a ≤ (xs.length : Nat) ∧ ((xs.length : Nat) : Int) ≤ b) : F_is_tuple [.d (.tuple xs), .d (.int a), .d (.int b)] [] = .ok (.d (.bool true)) [] := by
  rw [is_tuple_]
  simp [isTup, h]
theorem num_yes {x a b : Int} (h : a ≤ x ∧ x ≤ b) : F_is_number [.d (.int x), .d (.int a), .d (.int b)] [] = .ok (.d (.bool true)) [] := by
  rw [is_number_, isNum_in h]
theorem mon_yes {x : Int} (h : 0 ≤ x ∧ x ≤ 1000000000000) : F_is_money [.d (.int x)] [] = .ok (.d (.bool true)) [] := by
  rw [is_money_, isNum_in h]
theorem check_tower_ {u : Int} (hu : GU u) {ks : List Kd} (h : GT ks) : F_check_tower [.d (.tuple (ks.map (encK u)))] [] = .ok (.d .none) [] := by
  have e1 := tup_yes (xs := ks.map (encK u)) (a := 0) (b := 4) (by have := h.2; simp; omega)
  have e2 : (eLc (iAnyM (eV 0)) (gtN 1) (tOrM (tNotM (tT (eFrz (eCall F_is_kind (aCons (eV 1) aNil))))) (op2 eqD (eBin ixD (eV 1) (eC (.int (0)))) (eC (.str "part")))) (eV 1) [1]) [.d (.tuple (ks.map (encK u))), .no] [] = .ok (.own (.lst [])) [] := by
    refine q_lc (xs := ks.map (encK u)) (by walk_at "ev") ?_
    have := lc_map (tg := gtN 1) (t := (tOrM (tNotM (tT (eFrz (eCall F_is_kind (aCons (eV 1) aNil))))) (op2 eqD (eBin ixD (eV 1) (eC (.int (0)))) (eC (.str "part"))))) (fe := eV 1) (ρ := wipeS [.d (.tuple (ks.map (encK u))), .no] [1]) (cs := []) (encK u) (fun _ => false) (encK u) ks [] (fun k hk => ⟨_, rfl, by
      have i := is_kind_ hu (h.1 k hk)
      have t := tag_ix (u := u) (h.1 k hk)
      have p := tag_part (h.1 k hk)
      refine q_cast (z := !true || false) ?_ rfl
      walk_at "ev", fun z => by cases z⟩) (by have := h.2; simp; omega)
    rw [this]; simp
  unfold F_check_tower B_check_tower
  refine q_runx (by walk_at "rep") (ρ' := [.d (.tuple (ks.map (encK u))), .no]) (cs1 := []) ?_ rfl rfl
  walk_at "s1"
def lys (u : Int) (ks : List Kd) : List Ly := ks.map fun k => sc u (ly k)
theorem upTo_map (n : Nat) : upTo 0 n = (List.range n).map fun (k : Nat) => PyData.int (k : Nat) := by
  rw [← range_up n 0, List.range_eq_range']
theorem sum2 (a b : Int) : sumG [.tuple [.int a, .int b]] = some (.int (a + b)) := by
  show some (PyData.int (a + (b + 0))) = _
  rw [Int.add_zero]
local macro_rules | `(tactic| walk_at "opx") => `(tactic| with_reducible exact sum2 _ _)
theorem cutL_get : ∀ {T : List Ly} {ss : List Int} (h : T.length = ss.length), cutL T ss = (List.range T.length).map fun i => min (ss.getD i 0) ((T.getD i ⟨0, 0, 0⟩).A + (T.getD i ⟨0, 0, 0⟩).B)
  | [], [], _ => rfl
  | l :: T, s :: ss, h => by
    rw [List.length_cons, List.range_succ_eq_map, List.map_cons, List.map_map]
    show min s (l.A + l.B) :: cutL T ss = _
    rw [cutL_get (by simpa using h)]
    rfl
  | [], _ :: _, h => by simp at h
  | _ :: _, [], h => by simp at h
theorem mn_div {u : Int} (hu : 0 < u) (x y : Int) : min (u * x) (u * y) / u = min x y := by
  rw [mul_min hu, Int.mul_ediv_cancel_left _ (by omega)]
/-- the layers in units -/
def lyn (ks : List Kd) : List Ly := ks.map ly
theorem lyn_len (ks : List Kd) : (lyn ks).length = ks.length := by simp [lyn]
theorem lyn_g {ks : List Kd} (h : ∀ k ∈ ks, GK k) : ∀ l ∈ lyn ks, GLy l := by
  intro l hl
  obtain ⟨k, hk, rfl⟩ := List.mem_map.1 hl
  exact (h k hk).g
theorem lys_lyn (u : Int) (ks : List Kd) : lys u ks = (lyn ks).map (sc u) := by
  unfold lys lyn
  rw [List.map_map]; rfl
theorem law_cut_ {u : Int} (hu : GU u) {ks : List Kd} {ss : List Int} (hk : ∀ k ∈ ks, GK k) (hl : ks.length = ss.length) (hn : ks.length < 900) :
    F__law_cut [.d (.tuple (ks.map (encK u))), .d (.list ((ss.map (u * ·)).map .int)), .d (.int u)] [] = .ok (.d (.tuple ((cutL (lyn ks) ss).map .int))) [] := by
  have hu1 := hu.1
  have hu2 := hu.2
  have c1 : (eLc (iRng (eCd lenG (aCons (eV 0) aNil))) (gtN 3) tYesM (eBin fdivD (eCd minG (aCons (eBin ixD (eV 1) (eV 3)) (aCons (eCd sumG (aCons (eFrz (eCall F__law_layer (aCons (eBin ixD (eV 0) (eV 3)) aNil))) aNil)) aNil))) (eV 2)) [3]) [.d (.tuple (ks.map (encK u))), .d (.list ((ss.map (u * ·)).map .int)), .d (.int u), .no] [] = .ok (.own (.lst ((cutL (lyn ks) ss).map .int))) [] := by
    refine q_lc (xs := upTo 0 (ks.map (encK u)).length) (by walk_at "ev") ?_
    rw [upTo_map, lc_all (fun (k : Nat) => PyData.int (k : Nat)) (fun i => .int (min (ss.getD i 0) (((lyn ks).getD i ⟨0, 0, 0⟩).A + ((lyn ks).getD i ⟨0, 0, 0⟩).B))) (List.range (ks.map (encK u)).length) (fun i hi => ⟨_, rfl, rfl, by
      rw [List.mem_range, List.length_map] at hi
      have h1 := at_map (encK u) hi
      have h2 : atI ((ss.map (u * ·)).map PyData.int) (i : Nat) = some (PyData.int (u * ss[i]'(by omega))) := at_nat (by simp [show i < ss.length by omega])
      have h3 := law_layer_ hu (hk _ (List.getElem_mem hi))
      unfold encLy at h3
      have h4 : (lyn ks).getD i ⟨0, 0, 0⟩ = ly ks[i] := by simp [lyn, hi]
      have h5 : ss.getD i 0 = ss[i]'(by omega) := by simp [show i < ss.length by omega]
      rw [h4, h5]
      refine q_val (a := .d (.int (min (u * ss[i]'(by omega)) (u * (ly ks[i]).A + u * (ly ks[i]).B) / u))) ?_ ?_ rfl
      · show _ = _
        unfold sc at h3
        walk_at "ev"
      · rw [← Int.mul_add, mn_div (by omega)]⟩) (by simp; omega)]
    rw [cutL_get (by rw [lyn_len, hl]), lyn_len, List.length_map, List.map_map]
    rfl
  unfold F__law_cut B__law_cut
  refine q_run (by walk_at "rep") (r := .d (.tuple ((cutL (lyn ks) ss).map .int))) (cs1 := []) ?_ rfl rfl
  walk_at "s1"
/-- one step from a standing of both -/
def stp2 (T1 T2 : List Ly) (s : List Int) (r : Int × Int) : List Int × Bool :=
  ((tkP T1 (s.take T1.length) r.1 r.2).1 ++ (tkP T2 (s.drop T1.length) r.1 r.2).1, decide ((tkP T1 (s.take T1.length) r.1 r.2).2 ≠ (tkP T2 (s.drop T1.length) r.1 r.2).2))
/-- a standing of both -/
def St2 (T1 T2 : List Ly) (s : List Int) : Prop := StT T1 (s.take T1.length) ∧ StT T2 (s.drop T1.length)
theorem St2.len {T1 T2 : List Ly} {s : List Int} (h : St2 T1 T2 s) : s.length = T1.length + T2.length := by
  have a := h.1.len
  have b := h.2.len
  rw [List.length_take] at a
  rw [List.length_drop] at b
  omega
theorem app_St2 {T1 T2 : List Ly} {a b : List Int} (h1 : StT T1 a) (h2 : StT T2 b) : St2 T1 T2 (a ++ b) := by
  have := h1.len
  unfold St2
  rw [this, List.take_left, List.drop_left]
  exact ⟨h1, h2⟩
theorem stp2_St {T1 T2 : List Ly} (g1 : ∀ l ∈ T1, GLy l) (g2 : ∀ l ∈ T2, GLy l) {s : List Int} (h : St2 T1 T2 s) {r : Int × Int} (hr : 0 ≤ r.1) : St2 T1 T2 (stp2 T1 T2 s r).1 :=
  app_St2 (tk_St h.1 g1 hr r.2).2 (tk_St h.2 g2 hr r.2).2
section
variable {σ μ : Type} [DecidableEq σ]
theorem expA_app (f : σ → μ → σ × Bool) (s : σ) (run : List μ) : ∀ (a b : List μ) (Q : List (σ × List μ)), expA f s run (a ++ b) Q = match expA f s run a Q with
    | .inl r => .inl r
    | .inr Q' => expA f s run b Q'
  | [], _, _ => rfl
  | m :: a, b, Q => by
    show (if (f s m).2 = true then Sum.inl (run ++ [m]) else expA f s run (a ++ b) _) = match (if (f s m).2 = true then Sum.inl (run ++ [m]) else expA f s run a _) with
      | .inl r => .inl r
      | .inr Q' => expA f s run b Q'
    split
    · rfl
    · exact expA_app f s run a b _
theorem expA_len {f : σ → μ → σ × Bool} {s : σ} {run : List μ} : ∀ {ms : List μ} {Q Q' : List (σ × List μ)}, expA f s run ms Q = .inr Q' → Q'.length ≤ Q.length + ms.length
  | [], Q, Q', h => by cases h; exact Nat.le_refl _
  | m :: ms, Q, Q', h => by
    have h' : (if (f s m).2 = true then Sum.inl (run ++ [m]) else expA f s run ms (if (f s m).1 ∈ Q.map Prod.fst then Q else Q ++ [((f s m).1, run ++ [m])])) = Sum.inr Q' := h
    split at h'
    · cases h'
    · have := expA_len h'
      rw [List.length_cons]
      split at this
      · omega
      · rw [List.length_append, List.length_singleton] at this
        omega
/-- the loop over all that may come next -/
def EX (f : σ → μ → σ × Bool) (s : σ) (run ms : List μ) (Q : List (σ × List μ)) (R : List (σ × List μ) → List S → Store → Prop) (res : List μ → Rv) (out : Out) : Prop := match expA f s run ms Q with
  | .inl r => ∃ cs2, out = .rt (res r) cs2
  | .inr Q' => ∃ ρ2 cs2, out = .nx ρ2 cs2 ∧ R Q' ρ2 cs2
theorem EX_one {f : σ → μ → σ × Bool} {s : σ} {run : List μ} {m : μ} {Q : List (σ × List μ)} {R : List (σ × List μ) → List S → Store → Prop} {res : List μ → Rv} {out : Out} (h1 : (f s m).2 = true → ∃ cs2, out = .rt (res (run ++ [m])) cs2) (h2 : (f s m).2 = false → (f s m).1 ∈ Q.map Prod.fst → ∃ ρ2 cs2, out = .nx ρ2 cs2 ∧ R Q ρ2 cs2) (h3 : (f s m).2 = false → (f s m).1 ∉ Q.map Prod.fst → ∃ ρ2 cs2, out = .nx ρ2 cs2 ∧ R (Q ++ [((f s m).1, run ++ [m])]) ρ2 cs2) : EX f s run [m] Q R res out := by
  unfold EX
  show match (if (f s m).2 = true then Sum.inl (run ++ [m]) else Sum.inr (if (f s m).1 ∈ Q.map Prod.fst then Q else Q ++ [((f s m).1, run ++ [m])])) with
    | .inl r => ∃ cs2, out = .rt (res r) cs2
    | .inr Q' => ∃ ρ2 cs2, out = .nx ρ2 cs2 ∧ R Q' ρ2 cs2
  cases e : (f s m).2 with
  | true => exact h1 e
  | false =>
    by_cases c : (f s m).1 ∈ Q.map Prod.fst
    · simp only [Bool.false_eq_true, if_false, if_pos c]
      exact h2 e c
    · simp only [Bool.false_eq_true, if_false, if_neg c]
      exact h3 e c
theorem EX_mono {f : σ → μ → σ × Bool} {s : σ} {run ms : List μ} {Q : List (σ × List μ)} {R R' : List (σ × List μ) → List S → Store → Prop} {res : List μ → Rv} {out : Out} (h : EX f s run ms Q R res out) (hR : ∀ Q' ρ cs, expA f s run ms Q = .inr Q' → R Q' ρ cs → R' Q' ρ cs) : EX f s run ms Q R' res out := by
  unfold EX at h ⊢
  cases e : expA f s run ms Q with
  | inl r => rw [e] at h; exact h
  | inr Q' =>
    rw [e] at h
    obtain ⟨ρ2, cs2, h1, h2⟩ := h
    exact ⟨ρ2, cs2, h1, hR Q' ρ2 cs2 e h2⟩
theorem for_exp {f : σ → μ → σ × Bool} {s : σ} {run : List μ} {tg : D → List S → Option (List S)} {body : G} {β : Type} (e : β → D) (rs : β → List μ) (R : List (σ × List μ) → List S → Store → Prop) (res : List μ → Rv) (L : Nat) : ∀ (xs : List β) (Q : List (σ × List μ)) (ρ : List S) (cs : Store), (∀ x ∈ xs, ∀ Q ρ cs, R Q ρ cs → Q.length + (rs x).length ≤ L → ∃ ρ1, tg (e x) ρ = some ρ1 ∧ EX f s run (rs x) Q R res (body ρ1 cs)) → R Q ρ cs → Q.length + (xs.flatMap rs).length ≤ L → EX f s run (xs.flatMap rs) Q R res (gFor tg body (xs.map e) ρ cs)
  | [], Q, ρ, cs, _, h, _ => ⟨ρ, cs, rfl, h⟩
  | x :: xs, Q, ρ, cs, st, h, hl => by
    rw [List.flatMap_cons, List.length_append] at hl
    obtain ⟨ρ1, h1, h2⟩ := st x List.mem_cons_self Q ρ cs h (by omega)
    unfold EX at h2 ⊢
    rw [List.flatMap_cons, expA_app]
    cases ee : expA f s run (rs x) Q with
    | inl r =>
      rw [ee] at h2
      obtain ⟨cs2, h2⟩ := h2
      exact ⟨cs2, for_rt h1 h2⟩
    | inr Q' =>
      rw [ee] at h2
      obtain ⟨ρ2, cs2, h2, h3⟩ := h2
      have hq := expA_len ee
      have ih := for_exp e rs R res L xs Q' ρ2 cs2 (fun y hy => st y (List.mem_cons_of_mem _ hy)) h3 (by omega)
      unfold EX at ih
      dsimp only
      revert ih
      cases expA f s run (xs.flatMap rs) Q' with
      | inl r => exact fun ⟨cs3, h4⟩ => ⟨cs3, for_step h1 (.inl h2) h4⟩
      | inr Q2 => exact fun ⟨ρ3, cs3, h4, h5⟩ => ⟨ρ3, cs3, for_step h1 (.inl h2) h4, h5⟩
/-- the loop over all that is reached: for i in range(k) -/
theorem for_bfs {f : σ → μ → σ × Bool} {ms : List μ} {tg : D → List S → Option (List S)} {body : G} (R : Nat → List (σ × List μ) → List S → Store → Prop) (res : Sum (List μ) (List (σ × List μ)) → Rv) (N : Nat) (st : ∀ i Q ρ cs, i < N → R i Q ρ cs → ∃ ρ1, tg (.int (i : Nat)) ρ = some ρ1 ∧ (Q[i]? = none → ∃ cs2, body ρ1 cs = .rt (res (.inr Q)) cs2) ∧ (∀ s run, Q[i]? = some (s, run) → EX f s run ms Q (R (i + 1)) (fun r => res (.inl r)) (body ρ1 cs))) : ∀ (k i : Nat) (Q : List (σ × List μ)) (ρ : List S) (cs : Store), i + k ≤ N → R i Q ρ cs → match bfsA f ms k i Q with
    | none => ∃ ρ2 cs2, gFor tg body (upTo i k) ρ cs = .nx ρ2 cs2
    | some z => ∃ cs2, gFor tg body (upTo i k) ρ cs = .rt (res z) cs2
  | 0, i, Q, ρ, cs, _, _ => ⟨ρ, cs, rfl⟩
  | k + 1, i, Q, ρ, cs, hN, h => by
    obtain ⟨ρ1, h1, h2, h3⟩ := st i Q ρ cs (by omega) h
    rw [show upTo i (k + 1) = .int (i : Nat) :: upTo (i + 1) k from rfl]
    unfold bfsA
    cases e : Q[i]? with
    | none =>
      obtain ⟨cs2, h4⟩ := h2 e
      exact ⟨cs2, for_rt h1 h4⟩
    | some p =>
      obtain ⟨s, run⟩ := p
      have h4 := h3 s run e
      unfold EX at h4
      dsimp only
      cases ee : expA f s run ms Q with
      | inl r =>
        rw [ee] at h4
        obtain ⟨cs2, h4⟩ := h4
        exact ⟨cs2, for_rt h1 h4⟩
      | inr Q' =>
        rw [ee] at h4
        obtain ⟨ρ2, cs2, h4, h5⟩ := h4
        have ih := for_bfs R res N st k (i + 1) Q' ρ2 cs2 (by omega) h5
        dsimp only
        revert ih
        cases bfsA f ms k (i + 1) Q' with
        | none => exact fun ⟨ρ3, cs3, h6⟩ => ⟨ρ3, cs3, for_step h1 (.inl h4) h6⟩
        | some z => exact fun ⟨cs3, h6⟩ => ⟨cs3, for_step h1 (.inl h4) h6⟩
/-- the same: while i < len(queue) -/
theorem wh_bfs {f : σ → μ → σ × Bool} {ms : List μ} {t : List S → M Bool} {body : G} (R : Nat → List (σ × List μ) → List S → Store → Prop) (res : List μ → Rv) (N : Nat) (st : ∀ i Q ρ cs, i < N → R i Q ρ cs → (Q[i]? = none → t ρ cs = .ok false cs) ∧ (∀ s run, Q[i]? = some (s, run) → t ρ cs = .ok true cs ∧ EX f s run ms Q (R (i + 1)) res (body ρ cs))) : ∀ (k i : Nat) (Q : List (σ × List μ)) (ρ : List S) (cs : Store) (z : Sum (List μ) (List (σ × List μ))), bfsA f ms k i Q = some z → i + k ≤ N → R i Q ρ cs → match z with
    | .inl r => ∃ cs2, gWhile t body k ρ cs = .rt (res r) cs2
    | .inr Q' => ∃ i' ρ2 cs2, gWhile t body k ρ cs = .nx ρ2 cs2 ∧ R i' Q' ρ2 cs2
  | 0, _, _, _, _, _, h, _, _ => by cases h
  | k + 1, i, Q, ρ, cs, z, hz, hN, h => by
    obtain ⟨h2, h3⟩ := st i Q ρ cs (by omega) h
    have hz' : (match Q[i]? with
      | none => some (.inr Q)
      | some (s, run) => match expA f s run ms Q with
        | .inl r => some (.inl r)
        | .inr Q' => bfsA f ms k (i + 1) Q') = some z := hz
    cases e : Q[i]? with
    | none =>
      rw [e] at hz'
      cases hz'
      refine ⟨i, ρ, cs, ?_, h⟩
      rw [gWhile_succ, stp_, h2 e]; rfl
    | some p =>
      obtain ⟨s, run⟩ := p
      rw [e] at hz'
      obtain ⟨h4, h5⟩ := h3 s run e
      unfold EX at h5
      dsimp only at hz'
      cases ee : expA f s run ms Q with
      | inl r =>
        rw [ee] at hz' h5
        cases hz'
        obtain ⟨cs2, h6⟩ := h5
        refine ⟨cs2, ?_⟩
        rw [gWhile_succ, stp_, h4]
        dsimp only
        rw [if_pos rfl, h6]
      | inr Q' =>
        rw [ee] at hz' h5
        obtain ⟨ρ2, cs2, h6, h7⟩ := h5
        have ih := wh_bfs R res N st k (i + 1) Q' ρ2 cs2 z hz' (by omega) h7
        have eq : gWhile t body (k + 1) ρ cs = gWhile t body k ρ2 cs2 := by
          rw [gWhile_succ, stp_, h4]
          dsimp only
          rw [if_pos rfl, h6]
        rw [eq]
        exact ih
theorem expA_mem {f : σ → μ → σ × Bool} {s : σ} {run : List μ} : ∀ {ms : List μ} {Q Q' : List (σ × List μ)}, expA f s run ms Q = .inr Q' → ∀ q ∈ Q', q ∈ Q ∨ ∃ m ∈ ms, q = ((f s m).1, run ++ [m]) ∧ (f s m).2 = false
  | [], Q, Q', h, q, hq => by cases h; exact .inl hq
  | m :: ms, Q, Q', h, q, hq => by
    have h' : (if (f s m).2 = true then Sum.inl (run ++ [m]) else expA f s run ms (if (f s m).1 ∈ Q.map Prod.fst then Q else Q ++ [((f s m).1, run ++ [m])])) = Sum.inr Q' := h
    split at h'
    · cases h'
    · rename_i hp
      rcases expA_mem h' q hq with h1 | ⟨m', hm, h1⟩
      · split at h1
        · exact .inl h1
        · rw [List.mem_append, List.mem_singleton] at h1
          rcases h1 with h1 | h1
          · exact .inl h1
          · exact .inr ⟨m, List.mem_cons_self, h1, by simpa using hp⟩
      · exact .inr ⟨m', List.mem_cons_of_mem _ hm, h1⟩
theorem expA_grow {f : σ → μ → σ × Bool} {s : σ} {run : List μ} : ∀ {ms : List μ} {Q Q' : List (σ × List μ)}, expA f s run ms Q = .inr Q' → ∃ R, Q' = Q ++ R
  | [], Q, Q', h => by cases h; exact ⟨[], (List.append_nil _).symm⟩
  | m :: ms, Q, Q', h => by
    have h' : (if (f s m).2 = true then Sum.inl (run ++ [m]) else expA f s run ms (if (f s m).1 ∈ Q.map Prod.fst then Q else Q ++ [((f s m).1, run ++ [m])])) = Sum.inr Q' := h
    split at h'
    · cases h'
    · obtain ⟨R, hR⟩ := expA_grow h'
      split at hR
      · exact ⟨R, hR⟩
      · exact ⟨((f s m).1, run ++ [m]) :: R, by rw [hR, List.append_assoc]; rfl⟩
/-- steps that come to one thing twice count once -/
theorem expA_twice {f : σ → μ → σ × Bool} {s : σ} {run : List μ} {m m' : μ} (h : f s m' = f s m) (Q : List (σ × List μ)) : expA f s run [m, m'] Q = expA f s run [m] Q := by
  show (if (f s m).2 = true then Sum.inl (run ++ [m]) else (if (f s m').2 = true then Sum.inl (run ++ [m']) else Sum.inr (if (f s m').1 ∈ (if (f s m).1 ∈ Q.map Prod.fst then Q else Q ++ [((f s m).1, run ++ [m])]).map Prod.fst then (if (f s m).1 ∈ Q.map Prod.fst then Q else Q ++ [((f s m).1, run ++ [m])]) else _))) = (if (f s m).2 = true then Sum.inl (run ++ [m]) else Sum.inr (if (f s m).1 ∈ Q.map Prod.fst then Q else Q ++ [((f s m).1, run ++ [m])]))
  rw [h]
  split
  · rfl
  · rw [if_pos]
    split
    · assumption
    · simp
/-- where a walk comes to a row that parts, it came there by steps that part nothing -/
def way (f : σ → μ → σ × Bool) : σ → List μ → σ → Prop
  | s, [], t => s = t
  | s, m :: ms, t => (f s m).2 = false ∧ way f (f s m).1 ms t
theorem way_snoc {f : σ → μ → σ × Bool} : ∀ {s t : σ} {ms : List μ} {m : μ}, way f s ms t → (f t m).2 = false → way f s (ms ++ [m]) (f t m).1
  | _, _, [], _, h, h2 => by cases h; exact ⟨h2, rfl⟩
  | _, _, _ :: _, _, h, h2 => ⟨h.1, way_snoc h.2 h2⟩
theorem expA_part {f : σ → μ → σ × Bool} {s : σ} {run : List μ} {r : List μ} : ∀ {ms : List μ} {Q : List (σ × List μ)}, expA f s run ms Q = .inl r → ∃ m ∈ ms, r = run ++ [m] ∧ (f s m).2 = true
  | [], Q, h => by cases h
  | m :: ms, Q, h => by
    have h' : (if (f s m).2 = true then Sum.inl (run ++ [m]) else expA f s run ms (if (f s m).1 ∈ Q.map Prod.fst then Q else Q ++ [((f s m).1, run ++ [m])])) = Sum.inl r := h
    split at h'
    · cases h'
      exact ⟨m, List.mem_cons_self, rfl, by assumption⟩
    · obtain ⟨m', h1, h2⟩ := expA_part h'
      exact ⟨m', List.mem_cons_of_mem _ h1, h2⟩
theorem bfsA_way {f : σ → μ → σ × Bool} {ms : List μ} {s0 : σ} {r : List μ} : ∀ {k i : Nat} {Q : List (σ × List μ)}, bfsA f ms k i Q = some (.inl r) → (∀ q ∈ Q, way f s0 q.2 q.1) → ∃ r' m s, m ∈ ms ∧ r = r' ++ [m] ∧ way f s0 r' s ∧ (f s m).2 = true
  | 0, _, _, h, _ => by cases h
  | k + 1, i, Q, h, hq => by
    have h' : (match Q[i]? with
      | none => some (.inr Q)
      | some (s, run) => match expA f s run ms Q with
        | .inl r => some (.inl r)
        | .inr Q' => bfsA f ms k (i + 1) Q') = some (Sum.inl r) := h
    cases e : Q[i]? with
    | none => rw [e] at h'; cases h'
    | some p =>
      obtain ⟨s, run⟩ := p
      rw [e] at h'
      have hw := hq (s, run) (List.mem_of_getElem? e)
      dsimp only at h'
      cases ee : expA f s run ms Q with
      | inl r' =>
        rw [ee] at h'
        cases h'
        obtain ⟨m, h1, h2, h3⟩ := expA_part ee
        exact ⟨run, m, s, h1, h2, hw, h3⟩
      | inr Q' =>
        rw [ee] at h'
        refine bfsA_way h' fun q hm => ?_
        rcases expA_mem ee q hm with h1 | ⟨m, _, rfl, h2⟩
        · exact hq q h1
        · exact way_snoc hw h2
theorem for_expC {f : σ → μ → σ × Bool} {s : σ} {run : List μ} {tg : D → List S → Option (List S)} {body : G} {β : Type} {j : Nat} {ys : List D} (e : β → D) (rs : β → List μ) (R : List (σ × List μ) → List S → Store → Prop) (res : List μ → Rv) (L : Nat) (hj : ∀ Q ρ cs, R Q ρ cs → cs[j]? = some (.lst ys)) : ∀ (xs : List β) (Q : List (σ × List μ)) (ρ : List S) (cs : Store), (∀ x ∈ xs, ∀ Q ρ cs, R Q ρ cs → Q.length + (rs x).length ≤ L → ∃ ρ1, tg (e x) ρ = some ρ1 ∧ EX f s run (rs x) Q R res (body ρ1 cs)) → R Q ρ cs → Q.length + (xs.flatMap rs).length ≤ L → EX f s run (xs.flatMap rs) Q R res (gForC j ys tg body (xs.map e) ρ cs)
  | [], Q, ρ, cs, _, h, _ => ⟨ρ, cs, forC_nil (hj _ _ _ h), h⟩
  | x :: xs, Q, ρ, cs, st, h, hl => by
    rw [List.flatMap_cons, List.length_append] at hl
    obtain ⟨ρ1, h1, h2⟩ := st x List.mem_cons_self Q ρ cs h (by omega)
    have hc := hj _ _ _ h
    unfold EX at h2 ⊢
    rw [List.flatMap_cons, expA_app]
    cases ee : expA f s run (rs x) Q with
    | inl r =>
      rw [ee] at h2
      obtain ⟨cs2, h2⟩ := h2
      exact ⟨cs2, forC_rt hc h1 h2⟩
    | inr Q' =>
      rw [ee] at h2
      obtain ⟨ρ2, cs2, h2, h3⟩ := h2
      have hq := expA_len ee
      have ih := for_expC e rs R res L hj xs Q' ρ2 cs2 (fun y hy => st y (List.mem_cons_of_mem _ hy)) h3 (by omega)
      unfold EX at ih
      dsimp only
      revert ih
      cases expA f s run (xs.flatMap rs) Q' with
      | inl r => exact fun ⟨cs3, h4⟩ => ⟨cs3, forC_step hc h1 (.inl h2) h4⟩
      | inr Q2 => exact fun ⟨ρ3, cs3, h4, h5⟩ => ⟨ρ3, cs3, forC_step hc h1 (.inl h2) h4, h5⟩
end
def encM (u : Int) (r : Int × Int) : D := .tuple [.int (u * r.1), .int r.2]
def encS2 (n : Nat) (s : List Int) : D := .tuple [.tuple ((s.take n).map .int), .tuple ((s.drop n).map .int)]
def encQ (u : Int) (n : Nat) (q : List Int × List (Int × Int)) : D := .tuple [encS2 n q.1, .list (q.2.map (encM u))]
theorem StT_le : ∀ {ks : List Kd} {ss : List Int}, (∀ k ∈ ks, GK k) → StT (lyn ks) ss → ∀ s ∈ ss, 0 ≤ s ∧ s ≤ 1000
  | [], [], _, _, s, hs => by cases hs
  | k :: ks, s :: ss, h, h2, s', hs => by
    obtain ⟨⟨a1, a2⟩, a3⟩ := h2
    rcases List.mem_cons.1 hs with rfl | hs
    · obtain ⟨_, ⟨b1, b2⟩, ⟨b3, b4⟩, ⟨b5, b6⟩, _⟩ := h k List.mem_cons_self
      refine ⟨a1, ?_⟩
      have : (ly k).A ≤ 50 * 9 := by
        unfold ly
        dsimp only
        split
        · exact Int.le_trans (Int.mul_le_mul_of_nonneg_right b2 (by omega)) (Int.mul_le_mul_of_nonneg_left (show k.c + 1 ≤ 9 by omega) (by omega))
        · omega
      have : (ly k).B ≤ 50 := b4
      omega
    · exact StT_le (fun k hk => h k (List.mem_cons_of_mem _ hk)) a3 s' hs
  | [], _ :: _, _, h2, _, _ => h2.elim
  | _ :: _, [], _, h2, _, _ => h2.elim
/-- unit times each number -/
theorem scale_ {ρ : List S} {cs : Store} {fe : List S → M S} {i : Nat} {u : Int} {ss : List Int} (hx : iAnyM fe ρ cs = .ok (ss.map .int) cs) (h2 : ρ[2]? = some (.d (.int u))) (hi : i < ρ.length) (hi2 : 2 < i) (hu : GU u) (hs : ∀ s ∈ ss, 0 ≤ s ∧ s ≤ 1000) (hl : ss.length < 1000) :
    eLc (iAnyM fe) (gtN i) tYesM (eBin mulD (eV 2) (eV i)) [i] ρ cs = .ok (.own (.lst ((ss.map (u * ·)).map .int))) cs := by
  refine q_lc hx ?_
  rw [lc_all PyData.int (fun s => .int (u * s)) ss (fun s h => ⟨_, rfl, rfl, by
    have hu1 := hu.1
    have hu2 := hu.2
    have hs' := hs s h
    have e2 : (((wipeS ρ [i])).set i (S.d (.int s)))[2]? = some (.d (.int u)) := by
      show ((ρ.set i .no).set i _)[2]? = _
      rw [List.getElem?_set_ne (by omega), List.getElem?_set_ne (by omega)]
      exact h2
    have e3 : (((wipeS ρ [i])).set i (S.d (.int s)))[i]? = some (.d (.int s)) := by
      show ((ρ.set i .no).set i _)[i]? = _
      rw [List.getElem?_set_self (by rw [List.length_set]; exact hi)]
    exact bin_of (eV_ofP e2) (eV_ofP e3) (p_mul (by omega) (by omega))⟩) (by omega), List.map_map]
  rfl
section
variable (K : PySem.W.Frag) (w : PySem.World) {u : Int} {k1 k2 : List Kd}
abbrev wR (k1 k2 : List Kd) (u : Int) (am st : D) (i : Nat) (s8 r9 : S) (x10 x11 x12 x13 x14 : S) : List S := [.d (.tuple (k1.map (encK u))), .d (.tuple (k2.map (encK u))), .d (.int u), .d am, .d st, .cel 0, .cel 1, .d (.int (i : Nat)), s8, r9, x10, x11, x12, x13, x14, .no, .no]
abbrev wS (w : PySem.World) (u : Int) (n : Nat) (Q : List (List Int × List (Int × Int))) : Store := [.lst (Q.map (encQ u n)), .dV w ((Q.map Prod.fst).map kT)]
theorem tk_len2 {T1 T2 : List Ly} {s : List Int} (h : St2 T1 T2 s) : (s.take T1.length).length = T1.length ∧ (s.drop T1.length).length = T2.length := ⟨h.1.len.symm, h.2.len.symm⟩
theorem lw_step (hu : GU u) (h1 : GT k1) (h2 : GT k2) {s : List Int} (hs : St2 (lyn k1) (lyn k2) s) {m b : Int} (hm : 0 ≤ m ∧ m ≤ 100) {Q : List (List Int × List (Int × Int))} (hQ : Q.length < 900000) {run : List (Int × Int)} (hr : run.length < 900000) (am st : D) (i : Nat) (x12 x13 x14 : S) :
    EX (stp2 (lyn k1) (lyn k2)) s run [(m, b)] Q (fun Q' ρ cs => ∃ x11 x12 x13 x14, ρ = wR k1 k2 u am st i (.d (encS2 k1.length s)) (.d (.list (run.map (encM u)))) (.d (.int (u * m))) x11 x12 x13 x14 ∧ cs = wS w u k1.length Q') (fun r => .own (.lst [.str "apart", .list (r.map (encM u))]))
      (((gSeq (sSet 12 (eFrz (eCall F__law_take (aCons (eV 0) (aCons (eFrz (eLc (iAnyM (eBin ixD (eV 8) (eC (.int (0))))) (gtN 16) tYesM (eBin mulD (eV 2) (eV 16)) [16])) (aCons (eV 10) (aCons (eV 11) aNil)))))))
          (gSeq (sSet 13 (eFrz (eCall F__law_take (aCons (eV 1) (aCons (eFrz (eLc (iAnyM (eBin ixD (eV 8) (eC (.int (1))))) (gtN 16) tYesM (eBin mulD (eV 2) (eV 16)) [16])) (aCons (eV 10) (aCons (eV 11) aNil)))))))
          (gSeq (sIf (op2 neD (eBin ixD (eV 12) (eC (.int (1)))) (eBin ixD (eV 13) (eC (.int (1))))) (sRet (eLst (aCons (eC (.str "apart")) (aCons (eBin addD (eV 9) (eFrz (eLst (aCons (eTup (aCons (eV 10) (aCons (eV 11) aNil))) aNil)))) aNil)))) gNil)
          (gSeq (sSet 14 (eTup (aCons (eFrz (eCall F__law_cut (aCons (eV 0) (aCons (eBin ixD (eV 12) (eC (.int (0)))) (aCons (eV 2) aNil))))) (aCons (eFrz (eCall F__law_cut (aCons (eV 1) (aCons (eBin ixD (eV 13) (eC (.int (0)))) (aCons (eV 2) aNil))))) aNil))))
          (sIf (cInV w true (eBin addD (eBin ixD (eV 14) (eC (.int (0)))) (eBin ixD (eV 14) (eC (.int (1))))) (eV 6)) (gSeq (sSubV w (eV 6) (eBin addD (eBin ixD (eV 14) (eC (.int (0)))) (eBin ixD (eV 14) (eC (.int (1))))) (eC (.bool true)))
            (sExp (eMt appG (eV 5) (aCons (eTup (aCons (eV 14) (aCons (eBin addD (eV 9) (eFrz (eLst (aCons (eTup (aCons (eV 10) (aCons (eV 11) aNil))) aNil)))) aNil))) aNil)))) gNil)))))) (wR k1 k2 u am st i (.d (encS2 k1.length s)) (.d (.list (run.map (encM u)))) (.d (.int (u * m))) (.d (.int b)) x12 x13 x14) (wS w u k1.length Q)) := by
  simp only [wR, wS]
  have hu1 := hu.1
  obtain ⟨l1, l2⟩ := tk_len2 hs
  rw [lyn_len] at l1 l2
  have b1 := StT_le h1.1 hs.1
  have b2 := StT_le h2.1 hs.2
  have t1 := law_take_ hu (ks := k1) (ss := (s.take k1.length).map (u * ·)) h1.1 (by rw [List.length_map, l1]) (by have := h1.2; omega) (u * m) b
  have t2 := law_take_ hu (ks := k2) (ss := (s.drop k1.length).map (u * ·)) h2.1 (by rw [List.length_map, l2, lyn_len]) (by have := h2.2; omega) (u * m) b
  rw [show (k1.map fun k => sc u (ly k)) = lys u k1 from rfl, lys_lyn, tkL_sc (by omega)] at t1
  rw [show (k2.map fun k => sc u (ly k)) = lys u k2 from rfl, lys_lyn, tkL_sc (by omega)] at t2
  have p1 := (tk_St hs.1 (lyn_g h1.1) hm.1 b).1
  have p2 := (tk_St hs.2 (lyn_g h2.1) hm.1 b).1
  rw [lyn_len] at b1 b2 p1 p2
  have z1 := tkL_len (lyn k1) (s.take k1.length) m b (by rw [lyn_len, l1])
  have z2 := tkL_len (lyn k2) (s.drop k1.length) m b (by rw [l2])
  have ef : stp2 (lyn k1) (lyn k2) s (m, b) = (cutL (lyn k1) (tkL (lyn k1) (s.take k1.length) m b).1 ++ cutL (lyn k2) (tkL (lyn k2) (s.drop k1.length) m b).1, decide ((tkL (lyn k1) (s.take k1.length) m b).2 ≠ (tkL (lyn k2) (s.drop k1.length) m b).2)) := by
    unfold stp2
    rw [lyn_len, p1, p2]
  dsimp only at t1 t2
  generalize tkL (lyn k1) (s.take k1.length) m b = A1 at *
  generalize tkL (lyn k2) (s.drop k1.length) m b = A2 at *
  have c1 := law_cut_ hu (ks := k1) (ss := A1.1) h1.1 (by rw [z1, lyn_len]) (by have := h1.2; omega)
  have c2 := law_cut_ hu (ks := k2) (ss := A2.1) h2.1 (by rw [z2, lyn_len]) (by have := h2.2; omega)
  have y1 := cutL_len (lyn k1) A1.1 z1.symm
  have y2 := cutL_len (lyn k2) A2.1 z2.symm
  generalize cutL (lyn k1) A1.1 = C1 at *
  generalize cutL (lyn k2) A2.1 = C2 at *
  rw [lyn_len] at y1 y2
  have k12 : C1.length + C2.length < 1000 := by have := h1.2; have := h2.2; omega
  have tk1 : C1.length = k1.length := y1
  have eS : encS2 k1.length (C1 ++ C2) = .tuple [.tuple (C1.map .int), .tuple (C2.map .int)] := by
    unfold encS2
    rw [← tk1, List.take_left, List.drop_left]
  have g1 : (s.take k1.length).length < 1000 := by rw [l1]; have := h1.2; omega
  have g2 : (s.drop k1.length).length < 1000 := by rw [l2, lyn_len]; have := h2.2; omega
  unfold encS2
  have q1 : ∀ (x12 x13 x14 : S) (cs : Store), eLc (iAnyM (eBin ixD (eV 8) (eC (.int (0))))) (gtN 16) tYesM (eBin mulD (eV 2) (eV 16)) [16] [.d (.tuple (k1.map (encK u))), .d (.tuple (k2.map (encK u))), .d (.int u), .d am, .d st, .cel 0, .cel 1, .d (.int (i : Nat)), .d (.tuple [.tuple ((s.take k1.length).map .int), .tuple ((s.drop k1.length).map .int)]), .d (.list (run.map (encM u))), .d (.int (u * m)), .d (.int b), x12, x13, x14, .no, .no] cs = .ok (.own (.lst (((s.take k1.length).map (u * ·)).map .int))) cs := fun x12 x13 x14 cs => scale_ (by walk_at "ev") rfl (by simp) (by omega) hu b1 g1
  have q2 : ∀ (x12 x13 x14 : S) (cs : Store), eLc (iAnyM (eBin ixD (eV 8) (eC (.int (1))))) (gtN 16) tYesM (eBin mulD (eV 2) (eV 16)) [16] [.d (.tuple (k1.map (encK u))), .d (.tuple (k2.map (encK u))), .d (.int u), .d am, .d st, .cel 0, .cel 1, .d (.int (i : Nat)), .d (.tuple [.tuple ((s.take k1.length).map .int), .tuple ((s.drop k1.length).map .int)]), .d (.list (run.map (encM u))), .d (.int (u * m)), .d (.int b), x12, x13, x14, .no, .no] cs = .ok (.own (.lst (((s.drop k1.length).map (u * ·)).map .int))) cs := fun x12 x13 x14 cs => scale_ (by walk_at "ev") rfl (by simp) (by omega) hu b2 g2
  have q1' := q1 x12 x13 x14 [.lst (Q.map (encQ u k1.length)), .dV w ((Q.map Prod.fst).map kT)]
  have q2' := q2 (.d (.list [.list ((A1.1.map (u * ·)).map .int), .int (u * A1.2)])) x13 x14 [.lst (Q.map (encQ u k1.length)), .dV w ((Q.map Prod.fst).map kT)]
  clear q1 q2
  have ev : (stp2 (lyn k1) (lyn k2) s (m, b)).1 = C1 ++ C2 := by rw [ef]
  refine EX_one (fun hp => ?_) (fun hp hm => ?_) (fun hp hm => ?_)
  · rw [ef] at hp
    have ne : u * A1.2 ≠ u * A2.2 := fun e => (of_decide_eq_true hp) (Int.eq_of_mul_eq_mul_left (by omega) e)
    refine ⟨_, q_finr (r := .own (.lst [.str "apart", .list (run.map (encM u) ++ [.tuple [.int (u * m), .int b]])])) (cs' := [.lst (Q.map (encQ u k1.length)), .dV w ((Q.map Prod.fst).map kT)]) ?_ (by rw [List.map_append]; rfl) rfl⟩
    walk_at "st"
    walk_at "s1"
  · rw [ef] at hp
    have e : A1.2 = A2.2 := Decidable.of_not_not (of_decide_eq_false hp)
    have e' : u * A1.2 = u * A2.2 := by rw [e]
    rw [ev] at hm
    have hk := has_kT hm
    apply Exists.intro
    apply Exists.intro
    apply And.intro
    · walk_at "st"
      walk_at "s1"
    · exact ⟨_, _, _, _, rfl, rfl⟩
  · rw [ef] at hp
    have e : A1.2 = A2.2 := Decidable.of_not_not (of_decide_eq_false hp)
    have e' : u * A1.2 = u * A2.2 := by rw [e]
    rw [ev] at hm ⊢
    have hk := no_kT hm
    have hp := put_kT hm
    apply Exists.intro
    apply Exists.intro
    apply And.intro
    · walk_at "st"
      walk_at "s1"
    · refine ⟨_, _, _, _, rfl, ?_⟩
      have eQ : encQ u k1.length (C1 ++ C2, run ++ [(m, b)]) = .tuple [.tuple [.tuple (C1.map .int), .tuple (C2.map .int)], .list (run.map (encM u) ++ [.tuple [.int (u * m), .int b]])] := by
        unfold encQ
        dsimp only
        rw [eS, List.map_append]; rfl
      show _ = wS w u k1.length _
      unfold wS
      rw [List.map_append (f := encQ u k1.length), List.map_cons, List.map_nil, eQ, List.map_append (f := Prod.fst)]
      rfl
end
def prs (ams : List Int) : List (Int × Int) := ams.flatMap fun m => [(m, 1), (m, 0)]
theorem prs_mem {ams : List Int} {r : Int × Int} (h : r ∈ prs ams) : r.1 ∈ ams := by
  unfold prs at h
  obtain ⟨m, h1, h2⟩ := List.mem_flatMap.1 h
  simp only [List.mem_cons, List.not_mem_nil, or_false] at h2
  rcases h2 with rfl | rfl <;> exact h1
theorem prs_len (ams : List Int) : (prs ams).length = 2 * ams.length := by
  unfold prs
  induction ams with
  | nil => rfl
  | cons a ams ih => rw [List.flatMap_cons, List.length_append, ih, List.length_cons]; simp; omega
/-- what holds of the queue -/
structure InvQ (T1 T2 : List Ly) (n i : Nat) (Q : List (List Int × List (Int × Int))) : Prop where
  len : Q.length ≤ 1 + n * i
  pos : i ≤ Q.length
  nd : (Q.map Prod.fst).Nodup
  st : ∀ q ∈ Q, St2 T1 T2 q.1
  rl : ∀ q ∈ Q, q.2.length ≤ i
  z : ∀ q ∈ Q, q.2 = [] → q.1 = List.replicate (T1.length + T2.length) 0
theorem InvQ.start {T1 T2 : List Ly} (g1 : ∀ l ∈ T1, GLy l) (g2 : ∀ l ∈ T2, GLy l) (n : Nat) : InvQ T1 T2 n 0 [(List.replicate (T1.length + T2.length) 0, [])] := by
  refine ⟨by simp, Nat.zero_le _, by simp, fun q hq => ?_, fun q hq => ?_, fun q hq _ => ?_⟩
  · rw [List.mem_singleton] at hq
    subst hq
    show St2 T1 T2 (List.replicate (T1.length + T2.length) 0)
    rw [← List.replicate_append_replicate]
    exact app_St2 (zero_StT g1) (zero_StT g2)
  · rw [List.mem_singleton] at hq
    subst hq
    exact Nat.le_refl _
  · rw [List.mem_singleton] at hq
    subst hq
    rfl
theorem InvQ.step {T1 T2 : List Ly} (g1 : ∀ l ∈ T1, GLy l) (g2 : ∀ l ∈ T2, GLy l) {n i : Nat} {Q Q' : List (List Int × List (Int × Int))} {s : List Int} {run ms : List (Int × Int)} (h : InvQ T1 T2 n i Q) (hq : Q[i]? = some (s, run)) (hm : ∀ m ∈ ms, 0 ≤ m.1) (hl : ms.length ≤ n) {f : List Int → Int × Int → List Int × Bool} (hf : ∀ s m, (f s m).1 = (stp2 T1 T2 s m).1) (e : expA f s run ms Q = .inr Q') : InvQ T1 T2 n (i + 1) Q' := by
  have hs := List.mem_of_getElem? hq
  have hi := (List.getElem?_eq_some_iff.1 hq).1
  obtain ⟨R, eR⟩ := expA_grow e
  have h1 := expA_len e
  have h2 := h.len
  refine ⟨?_, ?_, ?_, fun q hq => ?_, fun q hq => ?_, fun q hq hz => ?_⟩
  · rw [Nat.mul_add]; omega
  · rw [eR, List.length_append]; omega
  · rw [expA_S e]
    exact expS_nodup _ _ _ _ h.nd
  · rcases expA_mem e q hq with h3 | ⟨m, h3, rfl, _⟩
    · exact h.st q h3
    · dsimp only
      rw [hf]
      exact stp2_St g1 g2 (h.st _ hs) (hm m h3)
  · rcases expA_mem e q hq with h3 | ⟨m, h3, rfl, _⟩
    · have := h.rl q h3; omega
    · have := h.rl _ hs
      simp only [List.length_append, List.length_singleton]
      simp only at this
      omega
  · rcases expA_mem e q hq with h3 | ⟨m, h3, rfl, _⟩
    · exact h.z q h3 hz
    · simp at hz
theorem stp2_zero {T1 T2 : List Ly} (m b : Int) : stp2 T1 T2 (List.replicate (T1.length + T2.length) 0) (m, b) = stp2 T1 T2 (List.replicate (T1.length + T2.length) 0) (m, 1) := by
  unfold stp2
  rw [List.take_replicate, List.drop_replicate, show min T1.length (T1.length + T2.length) = T1.length by omega, show T1.length + T2.length - T1.length = T2.length by omega]
  dsimp only
  rw [tkP_zero T1 m b, tkP_zero T2 m b]
theorem EX_same {σ μ : Type} [DecidableEq σ] {f : σ → μ → σ × Bool} {s : σ} {run ms ms' : List μ} {Q : List (σ × List μ)} {R : List (σ × List μ) → List S → Store → Prop} {res : List μ → Rv} {out : Out} (e : expA f s run ms Q = expA f s run ms' Q) (h : EX f s run ms' Q R res out) : EX f s run ms Q R res out := by
  unfold EX at h ⊢
  rw [e]; exact h
section
variable (w : PySem.World) {u : Int} {k1 k2 : List Kd}
theorem lw_amount (hu : GU u) (h1 : GT k1) (h2 : GT k2) {s : List Int} (hs : St2 (lyn k1) (lyn k2) s) {m : Int} (hm : 0 ≤ m ∧ m ≤ 100) {Q : List (List Int × List (Int × Int))} (hQ : Q.length < 800000) {run : List (Int × Int)} (hr : run.length < 900000) (hz : run = [] → s = List.replicate ((lyn k1).length + (lyn k2).length) 0) (am st : D) (i : Nat) (x11 x12 x13 x14 : S) :
    EX (stp2 (lyn k1) (lyn k2)) s run [(m, 1), (m, 0)] Q (fun Q' ρ cs => ∃ x10 x11 x12 x13 x14, ρ = wR k1 k2 u am st i (.d (encS2 k1.length s)) (.d (.list (run.map (encM u)))) x10 x11 x12 x13 x14 ∧ cs = wS w u k1.length Q') (fun r => .own (.lst [.str "apart", .list (r.map (encM u))]))
      (((sFor (gtN 11) (iAnyM (eIf (op2 gtD (eCd lenG (aCons (eV 9) aNil)) (eC (.int (0)))) (eFrz (eLst (aCons (eC (.int (1))) (aCons (eC (.int (0))) aNil)))) (eFrz (eLst (aCons (eC (.int (1))) aNil))))) (gSeq (sSet 12 (eFrz (eCall F__law_take (aCons (eV 0) (aCons (eFrz (eLc (iAnyM (eBin ixD (eV 8) (eC (.int (0))))) (gtN 16) tYesM (eBin mulD (eV 2) (eV 16)) [16])) (aCons (eV 10) (aCons (eV 11) aNil)))))))
          (gSeq (sSet 13 (eFrz (eCall F__law_take (aCons (eV 1) (aCons (eFrz (eLc (iAnyM (eBin ixD (eV 8) (eC (.int (1))))) (gtN 16) tYesM (eBin mulD (eV 2) (eV 16)) [16])) (aCons (eV 10) (aCons (eV 11) aNil)))))))
          (gSeq (sIf (op2 neD (eBin ixD (eV 12) (eC (.int (1)))) (eBin ixD (eV 13) (eC (.int (1))))) (sRet (eLst (aCons (eC (.str "apart")) (aCons (eBin addD (eV 9) (eFrz (eLst (aCons (eTup (aCons (eV 10) (aCons (eV 11) aNil))) aNil)))) aNil)))) gNil)
          (gSeq (sSet 14 (eTup (aCons (eFrz (eCall F__law_cut (aCons (eV 0) (aCons (eBin ixD (eV 12) (eC (.int (0)))) (aCons (eV 2) aNil))))) (aCons (eFrz (eCall F__law_cut (aCons (eV 1) (aCons (eBin ixD (eV 13) (eC (.int (0)))) (aCons (eV 2) aNil))))) aNil))))
          (sIf (cInV w true (eBin addD (eBin ixD (eV 14) (eC (.int (0)))) (eBin ixD (eV 14) (eC (.int (1))))) (eV 6)) (gSeq (sSubV w (eV 6) (eBin addD (eBin ixD (eV 14) (eC (.int (0)))) (eBin ixD (eV 14) (eC (.int (1))))) (eC (.bool true)))
            (sExp (eMt appG (eV 5) (aCons (eTup (aCons (eV 14) (aCons (eBin addD (eV 9) (eFrz (eLst (aCons (eTup (aCons (eV 10) (aCons (eV 11) aNil))) aNil)))) aNil))) aNil)))) gNil))))))) (wR k1 k2 u am st i (.d (encS2 k1.length s)) (.d (.list (run.map (encM u)))) (.d (.int (u * m))) x11 x12 x13 x14) (wS w u k1.length Q)) := by
  have inner : ∀ (bs : List Int), bs.length ≤ 2 → EX (stp2 (lyn k1) (lyn k2)) s run (bs.flatMap fun b => [(m, b)]) Q (fun Q' ρ cs => ∃ x11 x12 x13 x14, ρ = wR k1 k2 u am st i (.d (encS2 k1.length s)) (.d (.list (run.map (encM u)))) (.d (.int (u * m))) x11 x12 x13 x14 ∧ cs = wS w u k1.length Q') (fun r => .own (.lst [.str "apart", .list (r.map (encM u))])) (gFor (gtN 11) ((gSeq (sSet 12 (eFrz (eCall F__law_take (aCons (eV 0) (aCons (eFrz (eLc (iAnyM (eBin ixD (eV 8) (eC (.int (0))))) (gtN 16) tYesM (eBin mulD (eV 2) (eV 16)) [16])) (aCons (eV 10) (aCons (eV 11) aNil)))))))
          (gSeq (sSet 13 (eFrz (eCall F__law_take (aCons (eV 1) (aCons (eFrz (eLc (iAnyM (eBin ixD (eV 8) (eC (.int (1))))) (gtN 16) tYesM (eBin mulD (eV 2) (eV 16)) [16])) (aCons (eV 10) (aCons (eV 11) aNil)))))))
          (gSeq (sIf (op2 neD (eBin ixD (eV 12) (eC (.int (1)))) (eBin ixD (eV 13) (eC (.int (1))))) (sRet (eLst (aCons (eC (.str "apart")) (aCons (eBin addD (eV 9) (eFrz (eLst (aCons (eTup (aCons (eV 10) (aCons (eV 11) aNil))) aNil)))) aNil)))) gNil)
          (gSeq (sSet 14 (eTup (aCons (eFrz (eCall F__law_cut (aCons (eV 0) (aCons (eBin ixD (eV 12) (eC (.int (0)))) (aCons (eV 2) aNil))))) (aCons (eFrz (eCall F__law_cut (aCons (eV 1) (aCons (eBin ixD (eV 13) (eC (.int (0)))) (aCons (eV 2) aNil))))) aNil))))
          (sIf (cInV w true (eBin addD (eBin ixD (eV 14) (eC (.int (0)))) (eBin ixD (eV 14) (eC (.int (1))))) (eV 6)) (gSeq (sSubV w (eV 6) (eBin addD (eBin ixD (eV 14) (eC (.int (0)))) (eBin ixD (eV 14) (eC (.int (1))))) (eC (.bool true)))
            (sExp (eMt appG (eV 5) (aCons (eTup (aCons (eV 14) (aCons (eBin addD (eV 9) (eFrz (eLst (aCons (eTup (aCons (eV 10) (aCons (eV 11) aNil))) aNil)))) aNil))) aNil)))) gNil)))))) (bs.map .int) (wR k1 k2 u am st i (.d (encS2 k1.length s)) (.d (.list (run.map (encM u)))) (.d (.int (u * m))) x11 x12 x13 x14) (wS w u k1.length Q)) := fun bs hb => by
    refine for_exp PyData.int (fun b => [(m, b)]) _ _ (Q.length + 2) bs Q _ _ (fun b _ Q' ρ cs ⟨x11, x12, x13, x14, e1, e2⟩ hl => ?_) ⟨x11, x12, x13, x14, rfl, rfl⟩ ?_
    · subst e1 e2
      exact ⟨_, rfl, lw_step w hu h1 h2 hs hm (by simp only [List.length_singleton] at hl; omega) hr am st i x12 x13 x14⟩
    · have : (bs.flatMap fun b => [(m, b)]).length = bs.length := by
        clear hb
        induction bs with
        | nil => rfl
        | cons b bs ih => rw [List.flatMap_cons, List.length_append, ih]; simp; omega
      omega
  cases run with
  | nil =>
    have e0 : ((sFor (gtN 11) (iAnyM (eIf (op2 gtD (eCd lenG (aCons (eV 9) aNil)) (eC (.int (0)))) (eFrz (eLst (aCons (eC (.int (1))) (aCons (eC (.int (0))) aNil)))) (eFrz (eLst (aCons (eC (.int (1))) aNil))))) (gSeq (sSet 12 (eFrz (eCall F__law_take (aCons (eV 0) (aCons (eFrz (eLc (iAnyM (eBin ixD (eV 8) (eC (.int (0))))) (gtN 16) tYesM (eBin mulD (eV 2) (eV 16)) [16])) (aCons (eV 10) (aCons (eV 11) aNil)))))))
          (gSeq (sSet 13 (eFrz (eCall F__law_take (aCons (eV 1) (aCons (eFrz (eLc (iAnyM (eBin ixD (eV 8) (eC (.int (1))))) (gtN 16) tYesM (eBin mulD (eV 2) (eV 16)) [16])) (aCons (eV 10) (aCons (eV 11) aNil)))))))
          (gSeq (sIf (op2 neD (eBin ixD (eV 12) (eC (.int (1)))) (eBin ixD (eV 13) (eC (.int (1))))) (sRet (eLst (aCons (eC (.str "apart")) (aCons (eBin addD (eV 9) (eFrz (eLst (aCons (eTup (aCons (eV 10) (aCons (eV 11) aNil))) aNil)))) aNil)))) gNil)
          (gSeq (sSet 14 (eTup (aCons (eFrz (eCall F__law_cut (aCons (eV 0) (aCons (eBin ixD (eV 12) (eC (.int (0)))) (aCons (eV 2) aNil))))) (aCons (eFrz (eCall F__law_cut (aCons (eV 1) (aCons (eBin ixD (eV 13) (eC (.int (0)))) (aCons (eV 2) aNil))))) aNil))))
          (sIf (cInV w true (eBin addD (eBin ixD (eV 14) (eC (.int (0)))) (eBin ixD (eV 14) (eC (.int (1))))) (eV 6)) (gSeq (sSubV w (eV 6) (eBin addD (eBin ixD (eV 14) (eC (.int (0)))) (eBin ixD (eV 14) (eC (.int (1))))) (eC (.bool true)))
            (sExp (eMt appG (eV 5) (aCons (eTup (aCons (eV 14) (aCons (eBin addD (eV 9) (eFrz (eLst (aCons (eTup (aCons (eV 10) (aCons (eV 11) aNil))) aNil)))) aNil))) aNil)))) gNil))))))) (wR k1 k2 u am st i (.d (encS2 k1.length s)) (.d (.list (([] : List (Int × Int)).map (encM u)))) (.d (.int (u * m))) x11 x12 x13 x14) (wS w u k1.length Q) = gFor (gtN 11) ((gSeq (sSet 12 (eFrz (eCall F__law_take (aCons (eV 0) (aCons (eFrz (eLc (iAnyM (eBin ixD (eV 8) (eC (.int (0))))) (gtN 16) tYesM (eBin mulD (eV 2) (eV 16)) [16])) (aCons (eV 10) (aCons (eV 11) aNil)))))))
          (gSeq (sSet 13 (eFrz (eCall F__law_take (aCons (eV 1) (aCons (eFrz (eLc (iAnyM (eBin ixD (eV 8) (eC (.int (1))))) (gtN 16) tYesM (eBin mulD (eV 2) (eV 16)) [16])) (aCons (eV 10) (aCons (eV 11) aNil)))))))
          (gSeq (sIf (op2 neD (eBin ixD (eV 12) (eC (.int (1)))) (eBin ixD (eV 13) (eC (.int (1))))) (sRet (eLst (aCons (eC (.str "apart")) (aCons (eBin addD (eV 9) (eFrz (eLst (aCons (eTup (aCons (eV 10) (aCons (eV 11) aNil))) aNil)))) aNil)))) gNil)
          (gSeq (sSet 14 (eTup (aCons (eFrz (eCall F__law_cut (aCons (eV 0) (aCons (eBin ixD (eV 12) (eC (.int (0)))) (aCons (eV 2) aNil))))) (aCons (eFrz (eCall F__law_cut (aCons (eV 1) (aCons (eBin ixD (eV 13) (eC (.int (0)))) (aCons (eV 2) aNil))))) aNil))))
          (sIf (cInV w true (eBin addD (eBin ixD (eV 14) (eC (.int (0)))) (eBin ixD (eV 14) (eC (.int (1))))) (eV 6)) (gSeq (sSubV w (eV 6) (eBin addD (eBin ixD (eV 14) (eC (.int (0)))) (eBin ixD (eV 14) (eC (.int (1))))) (eC (.bool true)))
            (sExp (eMt appG (eV 5) (aCons (eTup (aCons (eV 14) (aCons (eBin addD (eV 9) (eFrz (eLst (aCons (eTup (aCons (eV 10) (aCons (eV 11) aNil))) aNil)))) aNil))) aNil)))) gNil)))))) [.int 1] (wR k1 k2 u am st i (.d (encS2 k1.length s)) (.d (.list (([] : List (Int × Int)).map (encM u)))) (.d (.int (u * m))) x11 x12 x13 x14) (wS w u k1.length Q) := by
      refine q_for ?_ rfl
      simp only [wR, wS, List.map_nil]
      walk_at "ev"
    rw [e0]
    have h3 := EX_mono (inner [1] (by simp)) (R' := fun Q' ρ cs => ∃ x10 x11 x12 x13 x14, ρ = wR k1 k2 u am st i (.d (encS2 k1.length s)) (.d (.list (([] : List (Int × Int)).map (encM u)))) x10 x11 x12 x13 x14 ∧ cs = wS w u k1.length Q') fun Q' ρ cs _ ⟨x11, x12, x13, x14, b, c⟩ => ⟨_, x11, x12, x13, x14, b, c⟩
    exact EX_same (show expA (stp2 (lyn k1) (lyn k2)) s [] [(m, 1), (m, 0)] Q = expA (stp2 (lyn k1) (lyn k2)) s [] [(m, 1)] Q from expA_twice (by rw [hz rfl]; exact stp2_zero m 0) Q) h3
  | cons r run =>
    have e0 : ((sFor (gtN 11) (iAnyM (eIf (op2 gtD (eCd lenG (aCons (eV 9) aNil)) (eC (.int (0)))) (eFrz (eLst (aCons (eC (.int (1))) (aCons (eC (.int (0))) aNil)))) (eFrz (eLst (aCons (eC (.int (1))) aNil))))) (gSeq (sSet 12 (eFrz (eCall F__law_take (aCons (eV 0) (aCons (eFrz (eLc (iAnyM (eBin ixD (eV 8) (eC (.int (0))))) (gtN 16) tYesM (eBin mulD (eV 2) (eV 16)) [16])) (aCons (eV 10) (aCons (eV 11) aNil)))))))
          (gSeq (sSet 13 (eFrz (eCall F__law_take (aCons (eV 1) (aCons (eFrz (eLc (iAnyM (eBin ixD (eV 8) (eC (.int (1))))) (gtN 16) tYesM (eBin mulD (eV 2) (eV 16)) [16])) (aCons (eV 10) (aCons (eV 11) aNil)))))))
          (gSeq (sIf (op2 neD (eBin ixD (eV 12) (eC (.int (1)))) (eBin ixD (eV 13) (eC (.int (1))))) (sRet (eLst (aCons (eC (.str "apart")) (aCons (eBin addD (eV 9) (eFrz (eLst (aCons (eTup (aCons (eV 10) (aCons (eV 11) aNil))) aNil)))) aNil)))) gNil)
          (gSeq (sSet 14 (eTup (aCons (eFrz (eCall F__law_cut (aCons (eV 0) (aCons (eBin ixD (eV 12) (eC (.int (0)))) (aCons (eV 2) aNil))))) (aCons (eFrz (eCall F__law_cut (aCons (eV 1) (aCons (eBin ixD (eV 13) (eC (.int (0)))) (aCons (eV 2) aNil))))) aNil))))
          (sIf (cInV w true (eBin addD (eBin ixD (eV 14) (eC (.int (0)))) (eBin ixD (eV 14) (eC (.int (1))))) (eV 6)) (gSeq (sSubV w (eV 6) (eBin addD (eBin ixD (eV 14) (eC (.int (0)))) (eBin ixD (eV 14) (eC (.int (1))))) (eC (.bool true)))
            (sExp (eMt appG (eV 5) (aCons (eTup (aCons (eV 14) (aCons (eBin addD (eV 9) (eFrz (eLst (aCons (eTup (aCons (eV 10) (aCons (eV 11) aNil))) aNil)))) aNil))) aNil)))) gNil))))))) (wR k1 k2 u am st i (.d (encS2 k1.length s)) (.d (.list ((r :: run).map (encM u)))) (.d (.int (u * m))) x11 x12 x13 x14) (wS w u k1.length Q) = gFor (gtN 11) ((gSeq (sSet 12 (eFrz (eCall F__law_take (aCons (eV 0) (aCons (eFrz (eLc (iAnyM (eBin ixD (eV 8) (eC (.int (0))))) (gtN 16) tYesM (eBin mulD (eV 2) (eV 16)) [16])) (aCons (eV 10) (aCons (eV 11) aNil)))))))
          (gSeq (sSet 13 (eFrz (eCall F__law_take (aCons (eV 1) (aCons (eFrz (eLc (iAnyM (eBin ixD (eV 8) (eC (.int (1))))) (gtN 16) tYesM (eBin mulD (eV 2) (eV 16)) [16])) (aCons (eV 10) (aCons (eV 11) aNil)))))))
          (gSeq (sIf (op2 neD (eBin ixD (eV 12) (eC (.int (1)))) (eBin ixD (eV 13) (eC (.int (1))))) (sRet (eLst (aCons (eC (.str "apart")) (aCons (eBin addD (eV 9) (eFrz (eLst (aCons (eTup (aCons (eV 10) (aCons (eV 11) aNil))) aNil)))) aNil)))) gNil)
          (gSeq (sSet 14 (eTup (aCons (eFrz (eCall F__law_cut (aCons (eV 0) (aCons (eBin ixD (eV 12) (eC (.int (0)))) (aCons (eV 2) aNil))))) (aCons (eFrz (eCall F__law_cut (aCons (eV 1) (aCons (eBin ixD (eV 13) (eC (.int (0)))) (aCons (eV 2) aNil))))) aNil))))
          (sIf (cInV w true (eBin addD (eBin ixD (eV 14) (eC (.int (0)))) (eBin ixD (eV 14) (eC (.int (1))))) (eV 6)) (gSeq (sSubV w (eV 6) (eBin addD (eBin ixD (eV 14) (eC (.int (0)))) (eBin ixD (eV 14) (eC (.int (1))))) (eC (.bool true)))
            (sExp (eMt appG (eV 5) (aCons (eTup (aCons (eV 14) (aCons (eBin addD (eV 9) (eFrz (eLst (aCons (eTup (aCons (eV 10) (aCons (eV 11) aNil))) aNil)))) aNil))) aNil)))) gNil)))))) [.int 1, .int 0] (wR k1 k2 u am st i (.d (encS2 k1.length s)) (.d (.list ((r :: run).map (encM u)))) (.d (.int (u * m))) x11 x12 x13 x14) (wS w u k1.length Q) := by
      refine q_for ?_ rfl
      simp only [wR, wS, List.map_cons]
      walk_at "ev"
    rw [e0]
    exact EX_mono (inner [1, 0] (by simp)) fun Q' ρ cs _ ⟨x11, x12, x13, x14, b, c⟩ => ⟨_, x11, x12, x13, x14, b, c⟩
theorem keys_dat (L : List (List Int)) : ((L.map kT).map fun q => q.1.data) = L.map fun q => PyData.tuple (q.map .int) := by
  rw [List.map_map]
  exact List.map_congr_left fun s _ => kI_data s
theorem nd_sort {T1 T2 : List Ly} {n i : Nat} {Q : List (List Int × List (Int × Int))} (h : InvQ T1 T2 n i Q) (h0 : Q ≠ []) : (∀ q ∈ Q.map Prod.fst, q ≠ []) ∨ Q.map Prod.fst = [[]] := by
  by_cases c : T1.length + T2.length = 0
  · right
    have all : ∀ s ∈ Q.map Prod.fst, s = [] := fun s hs => by
      obtain ⟨q, hq, rfl⟩ := List.mem_map.1 hs
      have := (h.st q hq).len
      exact List.length_eq_zero_iff.1 (by omega)
    have nd := h.nd
    revert all nd
    have h0' : Q.map Prod.fst ≠ [] := by simpa using h0
    revert h0'
    generalize Q.map Prod.fst = L
    intro h0' all nd
    match L, h0' with
    | [s], _ => rw [all s (by simp)]
    | s :: t :: L, _ =>
      rw [all s (by simp), all t (by simp)] at nd
      simp at nd
  · left
    intro s hs e
    obtain ⟨q, hq, rfl⟩ := List.mem_map.1 hs
    have := (h.st q hq).len
    rw [e] at this
    simp at this
    omega
end
def tupI (s : List Int) : D := .tuple (s.map .int)
noncomputable def resW (u : Int) : Sum (List (Int × Int)) (List (List Int × List (Int × Int))) → Rv
  | .inl r => .own (.lst [.str "apart", .list (r.map (encM u))])
  | .inr Q => .own (.lst [.str "alike", .list (sortDt ((Q.map Prod.fst).map tupI))])
section
variable (K : PySem.W.Frag) (w : PySem.World) {u : Int} {k1 k2 : List Kd} {ams : List Int}
theorem lw_walk (hu : GU u) (h1 : GT k1) (h2 : GT k2) (ha : ∀ m ∈ ams, 0 ≤ m ∧ m ≤ 100) (hl : ams.length ≤ 6) {z : Sum (List (Int × Int)) (List (List Int × List (Int × Int)))} (hz : bfsA (stp2 (lyn k1) (lyn k2)) (prs ams) 5000 0 [(List.replicate ((lyn k1).length + (lyn k2).length) 0, [])] = some z) :
    F__law_walk K w [.d (.tuple (k1.map (encK u))), .d (.tuple (k2.map (encK u))), .d (.int u), .d (.tuple (ams.map fun m => .int (u * m)))] [] = .ok (resW u z) [] := by
  have g1 := lyn_g h1.1
  have g2 := lyn_g h2.1
  have n1 := lyn_len k1
  have n2 := lyn_len k2
  have m1 := h1.2
  have m2 := h2.2
  generalize eam : PyData.tuple (ams.map fun m => .int (u * m)) = am
  generalize est : PyData.tuple [.tuple ((List.replicate k1.length (0 : Int)).map .int), .tuple ((List.replicate k2.length (0 : Int)).map .int)] = st
  have node := for_bfs (f := stp2 (lyn k1) (lyn k2)) (ms := prs ams) (tg := gtN 7) (body := (gSeq (sIf (op2 eqD (eV 7) (eCd lenG (aCons (eV 5) aNil))) (sRet (eLst (aCons (eC (.str "alike")) (aCons (eCd sortedTG (aCons (eFrz (eKeysV w 15 (eV 6))) aNil)) aNil)))) gNil)
      (gSeq (sTgt (gtT (gtsCons (gtN 8) (gtsCons (gtN 9) gtsNil))) (eBin ixD (eV 5) (eV 7)))
      (sFor (gtN 10) (iAnyM (eV 3)) (sFor (gtN 11) (iAnyM (eIf (op2 gtD (eCd lenG (aCons (eV 9) aNil)) (eC (.int (0)))) (eFrz (eLst (aCons (eC (.int (1))) (aCons (eC (.int (0))) aNil)))) (eFrz (eLst (aCons (eC (.int (1))) aNil))))) (gSeq (sSet 12 (eFrz (eCall F__law_take (aCons (eV 0) (aCons (eFrz (eLc (iAnyM (eBin ixD (eV 8) (eC (.int (0))))) (gtN 16) tYesM (eBin mulD (eV 2) (eV 16)) [16])) (aCons (eV 10) (aCons (eV 11) aNil)))))))
          (gSeq (sSet 13 (eFrz (eCall F__law_take (aCons (eV 1) (aCons (eFrz (eLc (iAnyM (eBin ixD (eV 8) (eC (.int (1))))) (gtN 16) tYesM (eBin mulD (eV 2) (eV 16)) [16])) (aCons (eV 10) (aCons (eV 11) aNil)))))))
          (gSeq (sIf (op2 neD (eBin ixD (eV 12) (eC (.int (1)))) (eBin ixD (eV 13) (eC (.int (1))))) (sRet (eLst (aCons (eC (.str "apart")) (aCons (eBin addD (eV 9) (eFrz (eLst (aCons (eTup (aCons (eV 10) (aCons (eV 11) aNil))) aNil)))) aNil)))) gNil)
          (gSeq (sSet 14 (eTup (aCons (eFrz (eCall F__law_cut (aCons (eV 0) (aCons (eBin ixD (eV 12) (eC (.int (0)))) (aCons (eV 2) aNil))))) (aCons (eFrz (eCall F__law_cut (aCons (eV 1) (aCons (eBin ixD (eV 13) (eC (.int (0)))) (aCons (eV 2) aNil))))) aNil))))
          (sIf (cInV w true (eBin addD (eBin ixD (eV 14) (eC (.int (0)))) (eBin ixD (eV 14) (eC (.int (1))))) (eV 6)) (gSeq (sSubV w (eV 6) (eBin addD (eBin ixD (eV 14) (eC (.int (0)))) (eBin ixD (eV 14) (eC (.int (1))))) (eC (.bool true)))
            (sExp (eMt appG (eV 5) (aCons (eTup (aCons (eV 14) (aCons (eBin addD (eV 9) (eFrz (eLst (aCons (eTup (aCons (eV 10) (aCons (eV 11) aNil))) aNil)))) aNil))) aNil)))) gNil)))))))))) (fun i Q ρ cs => (InvQ (lyn k1) (lyn k2) 12 i Q ∧ Q ≠ []) ∧ ∃ s7 s8 r9 x10 x11 x12 x13 x14, ρ = [.d (.tuple (k1.map (encK u))), .d (.tuple (k2.map (encK u))), .d (.int u), .d am, .d st, .cel 0, .cel 1, s7, s8, r9, x10, x11, x12, x13, x14, .no, .no] ∧ cs = wS w u k1.length Q) (resW u) 5000 (fun i Q ρ cs hi ⟨⟨iv, hne⟩, s7, s8, r9, x10, x11, x12, x13, x14, e1, e2⟩ => by
    subst e1 e2
    have hQ : Q.length ≤ 60001 := by have := iv.len; omega
    refine ⟨_, rfl, fun hn => ?_, fun s run hq => ?_⟩
    · have hln : ((i : Nat) : Int) = ((Q.map (encQ u k1.length)).length : Nat) := by
        have := List.getElem?_eq_none_iff.1 hn
        have := iv.pos
        rw [List.length_map]; omega
      have hs : sortedTG [.list (((Q.map Prod.fst).map kT).map fun q => q.1.data)] = some (.list (sortDt ((Q.map Prod.fst).map fun q => .tuple (q.map .int)))) := by
        rw [keys_dat]
        exact sortedTG_ints (Q.map Prod.fst) (nd_sort iv hne) (by rw [List.length_map]; omega)
      have hlk : ((Q.map Prod.fst).map kT).length < 1000000 := by simp; omega
      refine ⟨[.lst (Q.map (encQ u k1.length)), .dV w ((Q.map Prod.fst).map kT)], ?_⟩
      simp only [wS, List.set_cons_succ, List.set_cons_zero]
      refine q_finr (r := .own (.lst [.str "alike", .list (sortDt ((Q.map Prod.fst).map fun q => .tuple (q.map .int)))])) ?_ rfl rfl
      walk_at "s1"
    · have hln : ¬ ((i : Nat) : Int) = ((Q.map (encQ u k1.length)).length : Nat) := by
        have := (List.getElem?_eq_some_iff.1 hq).1
        rw [List.length_map]; omega
      have hat : atI (Q.map (encQ u k1.length)) (i : Nat) = some (.tuple [encS2 k1.length s, .list (run.map (encM u))]) := at_nat (by rw [List.getElem?_map, hq]; rfl)
      have hm := List.mem_of_getElem? hq
      have eo : ((gSeq (sIf (op2 eqD (eV 7) (eCd lenG (aCons (eV 5) aNil))) (sRet (eLst (aCons (eC (.str "alike")) (aCons (eCd sortedTG (aCons (eFrz (eKeysV w 15 (eV 6))) aNil)) aNil)))) gNil)
      (gSeq (sTgt (gtT (gtsCons (gtN 8) (gtsCons (gtN 9) gtsNil))) (eBin ixD (eV 5) (eV 7)))
      (sFor (gtN 10) (iAnyM (eV 3)) (sFor (gtN 11) (iAnyM (eIf (op2 gtD (eCd lenG (aCons (eV 9) aNil)) (eC (.int (0)))) (eFrz (eLst (aCons (eC (.int (1))) (aCons (eC (.int (0))) aNil)))) (eFrz (eLst (aCons (eC (.int (1))) aNil))))) (gSeq (sSet 12 (eFrz (eCall F__law_take (aCons (eV 0) (aCons (eFrz (eLc (iAnyM (eBin ixD (eV 8) (eC (.int (0))))) (gtN 16) tYesM (eBin mulD (eV 2) (eV 16)) [16])) (aCons (eV 10) (aCons (eV 11) aNil)))))))
          (gSeq (sSet 13 (eFrz (eCall F__law_take (aCons (eV 1) (aCons (eFrz (eLc (iAnyM (eBin ixD (eV 8) (eC (.int (1))))) (gtN 16) tYesM (eBin mulD (eV 2) (eV 16)) [16])) (aCons (eV 10) (aCons (eV 11) aNil)))))))
          (gSeq (sIf (op2 neD (eBin ixD (eV 12) (eC (.int (1)))) (eBin ixD (eV 13) (eC (.int (1))))) (sRet (eLst (aCons (eC (.str "apart")) (aCons (eBin addD (eV 9) (eFrz (eLst (aCons (eTup (aCons (eV 10) (aCons (eV 11) aNil))) aNil)))) aNil)))) gNil)
          (gSeq (sSet 14 (eTup (aCons (eFrz (eCall F__law_cut (aCons (eV 0) (aCons (eBin ixD (eV 12) (eC (.int (0)))) (aCons (eV 2) aNil))))) (aCons (eFrz (eCall F__law_cut (aCons (eV 1) (aCons (eBin ixD (eV 13) (eC (.int (0)))) (aCons (eV 2) aNil))))) aNil))))
          (sIf (cInV w true (eBin addD (eBin ixD (eV 14) (eC (.int (0)))) (eBin ixD (eV 14) (eC (.int (1))))) (eV 6)) (gSeq (sSubV w (eV 6) (eBin addD (eBin ixD (eV 14) (eC (.int (0)))) (eBin ixD (eV 14) (eC (.int (1))))) (eC (.bool true)))
            (sExp (eMt appG (eV 5) (aCons (eTup (aCons (eV 14) (aCons (eBin addD (eV 9) (eFrz (eLst (aCons (eTup (aCons (eV 10) (aCons (eV 11) aNil))) aNil)))) aNil))) aNil)))) gNil)))))))))) ([.d (.tuple (k1.map (encK u))), .d (.tuple (k2.map (encK u))), .d (.int u), .d am, .d st, .cel 0, .cel 1, s7, s8, r9, x10, x11, x12, x13, x14, .no, .no].set 7 (.d (.int (i : Nat)))) (wS w u k1.length Q) = gFor (gtN 10) ((sFor (gtN 11) (iAnyM (eIf (op2 gtD (eCd lenG (aCons (eV 9) aNil)) (eC (.int (0)))) (eFrz (eLst (aCons (eC (.int (1))) (aCons (eC (.int (0))) aNil)))) (eFrz (eLst (aCons (eC (.int (1))) aNil))))) (gSeq (sSet 12 (eFrz (eCall F__law_take (aCons (eV 0) (aCons (eFrz (eLc (iAnyM (eBin ixD (eV 8) (eC (.int (0))))) (gtN 16) tYesM (eBin mulD (eV 2) (eV 16)) [16])) (aCons (eV 10) (aCons (eV 11) aNil)))))))
          (gSeq (sSet 13 (eFrz (eCall F__law_take (aCons (eV 1) (aCons (eFrz (eLc (iAnyM (eBin ixD (eV 8) (eC (.int (1))))) (gtN 16) tYesM (eBin mulD (eV 2) (eV 16)) [16])) (aCons (eV 10) (aCons (eV 11) aNil)))))))
          (gSeq (sIf (op2 neD (eBin ixD (eV 12) (eC (.int (1)))) (eBin ixD (eV 13) (eC (.int (1))))) (sRet (eLst (aCons (eC (.str "apart")) (aCons (eBin addD (eV 9) (eFrz (eLst (aCons (eTup (aCons (eV 10) (aCons (eV 11) aNil))) aNil)))) aNil)))) gNil)
          (gSeq (sSet 14 (eTup (aCons (eFrz (eCall F__law_cut (aCons (eV 0) (aCons (eBin ixD (eV 12) (eC (.int (0)))) (aCons (eV 2) aNil))))) (aCons (eFrz (eCall F__law_cut (aCons (eV 1) (aCons (eBin ixD (eV 13) (eC (.int (0)))) (aCons (eV 2) aNil))))) aNil))))
          (sIf (cInV w true (eBin addD (eBin ixD (eV 14) (eC (.int (0)))) (eBin ixD (eV 14) (eC (.int (1))))) (eV 6)) (gSeq (sSubV w (eV 6) (eBin addD (eBin ixD (eV 14) (eC (.int (0)))) (eBin ixD (eV 14) (eC (.int (1))))) (eC (.bool true)))
            (sExp (eMt appG (eV 5) (aCons (eTup (aCons (eV 14) (aCons (eBin addD (eV 9) (eFrz (eLst (aCons (eTup (aCons (eV 10) (aCons (eV 11) aNil))) aNil)))) aNil))) aNil)))) gNil))))))) (ams.map fun m => .int (u * m)) (wR k1 k2 u am st i (.d (encS2 k1.length s)) (.d (.list (run.map (encM u)))) x10 x11 x12 x13 x14) (wS w u k1.length Q) := by
        subst eam
        simp only [wS, wR, List.set_cons_succ, List.set_cons_zero]
        walk_at "st"
        refine q_for (xs := ams.map fun m => .int (u * m)) ?_ rfl
        walk_at "ev"
      rw [eo]
      refine EX_mono (R := fun Q' ρ cs => ∃ x10 x11 x12 x13 x14, ρ = wR k1 k2 u am st i (.d (encS2 k1.length s)) (.d (.list (run.map (encM u)))) x10 x11 x12 x13 x14 ∧ cs = wS w u k1.length Q') ?_ fun Q' ρ cs e ⟨y10, y11, y12, y13, y14, b, c⟩ => ⟨⟨iv.step g1 g2 hq (fun m hm => (ha _ (prs_mem hm)).1) (by rw [prs_len]; omega) (fun _ _ => rfl) e, ?_⟩, _, _, _, y10, y11, y12, y13, y14, b, c⟩
      · refine for_exp (fun m => PyData.int (u * m)) (fun m => [(m, 1), (m, 0)]) _ _ 70000 ams Q _ _ (fun m hm' Q' ρ cs ⟨y10, y11, y12, y13, y14, b, c⟩ hl' => ?_) ⟨x10, x11, x12, x13, x14, rfl, rfl⟩ ?_
        · subst b c
          exact ⟨_, rfl, lw_amount w hu h1 h2 (iv.st _ hm) (ha m hm') (by omega) (show run.length < 900000 by have : run.length ≤ i := iv.rl _ hm; omega) (iv.z _ hm) am st i y11 y12 y13 y14⟩
        · have := prs_len ams
          unfold prs at this
          omega
      · obtain ⟨R, eR⟩ := expA_grow e
        rw [eR]
        simp [hne]) 5000 0 [(List.replicate ((lyn k1).length + (lyn k2).length) 0, [])] [.d (.tuple (k1.map (encK u))), .d (.tuple (k2.map (encK u))), .d (.int u), .d am, .d st, .cel 0, .cel 1, .no, .no, .no, .no, .no, .no, .no, .no, .no, .no] (wS w u k1.length [(List.replicate ((lyn k1).length + (lyn k2).length) 0, [])]) (Nat.le_refl _) ⟨⟨InvQ.start g1 g2 12, by simp⟩, _, _, _, _, _, _, _, _, rfl, rfl⟩
  rw [hz] at node
  obtain ⟨cs2, node⟩ := node
  have eS : encS2 k1.length (List.replicate (k1.length + k2.length) 0) = st := by
    rw [← est]
    unfold encS2
    rw [List.take_replicate, List.drop_replicate, show min k1.length (k1.length + k2.length) = k1.length by omega, show k1.length + k2.length - k1.length = k2.length by omega]
  have eW : wS w u k1.length [(List.replicate ((lyn k1).length + (lyn k2).length) 0, [])] = [.lst [.tuple [st, .list []]], .dV w [kT (List.replicate k1.length 0 ++ List.replicate k2.length 0)]] := by
    rw [n1, n2]
    unfold wS
    rw [List.map_cons, List.map_nil, List.map_cons, List.map_nil, List.replicate_append_replicate]
    unfold encQ
    dsimp only
    rw [eS]
    rfl
  rw [eW] at node
  have z1 : mulE (.tuple [.int 0]) (.int ((k1.map (encK u)).length : Nat)) = some (.tuple ((List.replicate k1.length (0 : Int)).map .int)) := by
    rw [List.length_map]; exact mulE_zeros _ (by omega)
  have z2 : mulE (.tuple [.int 0]) (.int ((k2.map (encK u)).length : Nat)) = some (.tuple ((List.replicate k2.length (0 : Int)).map .int)) := by
    rw [List.length_map]; exact mulE_zeros _ (by omega)
  have hp : gpK [] (kI (List.replicate k1.length 0 ++ List.replicate k2.length 0)) (.bool true) = [kT (List.replicate k1.length 0 ++ List.replicate k2.length 0)] := rfl
  have hr : ∀ (ρ : List S) (cs : Store), iRng (eC (.int (5000))) ρ cs = .ok (upTo 0 5000) cs := fun ρ cs => q_rng (n := 5000) rfl (by omega)
  have fin : (gSeq (sSet 4 (eTup (aCons (eBin mulE (eTup (aCons (eC (.int (0))) aNil)) (eCd lenG (aCons (eV 0) aNil))) (aCons (eBin mulE (eTup (aCons (eC (.int (0))) aNil)) (eCd lenG (aCons (eV 1) aNil))) aNil))))
    (gSeq (sNew 5 (eLst (aCons (eTup (aCons (eV 4) (aCons (eFrz (eLst aNil)) aNil))) aNil)))
    (gSeq (sNew 6 (eDicV w))
    (gSeq (sSubV w (eV 6) (eBin addD (eBin ixD (eV 4) (eC (.int (0)))) (eBin ixD (eV 4) (eC (.int (1))))) (eC (.bool true)))
    (gSeq (sFor (gtN 7) (iRng (eC (.int (5000)))) (gSeq (sIf (op2 eqD (eV 7) (eCd lenG (aCons (eV 5) aNil))) (sRet (eLst (aCons (eC (.str "alike")) (aCons (eCd sortedTG (aCons (eFrz (eKeysV w 15 (eV 6))) aNil)) aNil)))) gNil)
      (gSeq (sTgt (gtT (gtsCons (gtN 8) (gtsCons (gtN 9) gtsNil))) (eBin ixD (eV 5) (eV 7)))
      (sFor (gtN 10) (iAnyM (eV 3)) (sFor (gtN 11) (iAnyM (eIf (op2 gtD (eCd lenG (aCons (eV 9) aNil)) (eC (.int (0)))) (eFrz (eLst (aCons (eC (.int (1))) (aCons (eC (.int (0))) aNil)))) (eFrz (eLst (aCons (eC (.int (1))) aNil))))) (gSeq (sSet 12 (eFrz (eCall F__law_take (aCons (eV 0) (aCons (eFrz (eLc (iAnyM (eBin ixD (eV 8) (eC (.int (0))))) (gtN 16) tYesM (eBin mulD (eV 2) (eV 16)) [16])) (aCons (eV 10) (aCons (eV 11) aNil)))))))
          (gSeq (sSet 13 (eFrz (eCall F__law_take (aCons (eV 1) (aCons (eFrz (eLc (iAnyM (eBin ixD (eV 8) (eC (.int (1))))) (gtN 16) tYesM (eBin mulD (eV 2) (eV 16)) [16])) (aCons (eV 10) (aCons (eV 11) aNil)))))))
          (gSeq (sIf (op2 neD (eBin ixD (eV 12) (eC (.int (1)))) (eBin ixD (eV 13) (eC (.int (1))))) (sRet (eLst (aCons (eC (.str "apart")) (aCons (eBin addD (eV 9) (eFrz (eLst (aCons (eTup (aCons (eV 10) (aCons (eV 11) aNil))) aNil)))) aNil)))) gNil)
          (gSeq (sSet 14 (eTup (aCons (eFrz (eCall F__law_cut (aCons (eV 0) (aCons (eBin ixD (eV 12) (eC (.int (0)))) (aCons (eV 2) aNil))))) (aCons (eFrz (eCall F__law_cut (aCons (eV 1) (aCons (eBin ixD (eV 13) (eC (.int (0)))) (aCons (eV 2) aNil))))) aNil))))
          (sIf (cInV w true (eBin addD (eBin ixD (eV 14) (eC (.int (0)))) (eBin ixD (eV 14) (eC (.int (1))))) (eV 6)) (gSeq (sSubV w (eV 6) (eBin addD (eBin ixD (eV 14) (eC (.int (0)))) (eBin ixD (eV 14) (eC (.int (1))))) (eC (.bool true)))
            (sExp (eMt appG (eV 5) (aCons (eTup (aCons (eV 14) (aCons (eBin addD (eV 9) (eFrz (eLst (aCons (eTup (aCons (eV 10) (aCons (eV 11) aNil))) aNil)))) aNil))) aNil)))) gNil))))))))))
    (sRet (eLst (aCons (eC (.str "large")) aNil)))))))) [.d (.tuple (k1.map (encK u))), .d (.tuple (k2.map (encK u))), .d (.int u), .d am, .no, .no, .no, .no, .no, .no, .no, .no, .no, .no, .no, .no, .no] [] = .rt (resW u z) cs2 := by
    subst est
    have hr' := hr [.d (.tuple (k1.map (encK u))), .d (.tuple (k2.map (encK u))), .d (.int u), .d am, .d (.tuple [.tuple ((List.replicate k1.length (0 : Int)).map .int), .tuple ((List.replicate k2.length (0 : Int)).map .int)]), .cel 0, .cel 1, .no, .no, .no, .no, .no, .no, .no, .no, .no, .no] [.lst [.tuple [.tuple [.tuple ((List.replicate k1.length (0 : Int)).map .int), .tuple ((List.replicate k2.length (0 : Int)).map .int)], .list []]], .dV w [kT (List.replicate k1.length 0 ++ List.replicate k2.length 0)]]
    walk_at "st"
    walk_at "s1"
  unfold F__law_walk B__law_walk
  refine q_run (by walk_at "rep") fin rfl ?_
  cases z <;> rfl
end
/-- what the parting is not looked at -/
def stp0 (T1 T2 : List Ly) (s : List Int) (r : Int × Int) : List Int × Bool := ((stp2 T1 T2 s r).1, false)
def prs0 (ams : List Int) : List (Int × Int) := ams.flatMap fun m => [(m, 0), (m, 1)]
theorem prs0_mem {ams : List Int} {r : Int × Int} (h : r ∈ prs0 ams) : r.1 ∈ ams := by
  unfold prs0 at h
  obtain ⟨m, h1, h2⟩ := List.mem_flatMap.1 h
  simp only [List.mem_cons, List.not_mem_nil, or_false] at h2
  rcases h2 with rfl | rfl <;> exact h1
theorem prs0_len (ams : List Int) : (prs0 ams).length = 2 * ams.length := by
  unfold prs0
  induction ams with
  | nil => rfl
  | cons a ams ih => rw [List.flatMap_cons, List.length_append, ih, List.length_cons]; simp; omega
section
variable (K : PySem.W.Frag) (w : PySem.World) {u : Int} {k1 k2 : List Kd} {ams : List Int}
abbrev aR (k1 k2 : List Kd) (u : Int) (am st : D) (i : Nat) (x8 x9 x10 x11 x12 : S) : List S := [.d (.tuple (k1.map (encK u))), .d (.tuple (k2.map (encK u))), .d (.int u), .d am, .d st, .cel 0, .cel 1, .d (.int (i : Nat)), x8, x9, x10, x11, x12, .no, .no]
abbrev aS (w : PySem.World) (n : Nat) (Q : List (List Int × List (Int × Int))) : Store := [.lst ((Q.map Prod.fst).map (encS2 n)), .dV w ((Q.map Prod.fst).map kT)]
theorem la_step (hu : GU u) (h1 : GT k1) (h2 : GT k2) {s : List Int} (hs : St2 (lyn k1) (lyn k2) s) {m b : Int} (hm : 0 ≤ m ∧ m ≤ 100) {Q : List (List Int × List (Int × Int))} (hQ : Q.length < 900000) {run : List (Int × Int)} (am st : D) {i : Nat} (hat : ((Q.map Prod.fst).map (encS2 k1.length))[i]? = some (encS2 k1.length s)) (x10 x11 x12 : S) :
    EX (stp0 (lyn k1) (lyn k2)) s run [(m, b)] Q (fun Q' ρ cs => ∃ x9 x10 x11 x12, ρ = aR k1 k2 u am st i (.d (.int (u * m))) x9 x10 x11 x12 ∧ cs = aS w k1.length Q') (fun r => .d .none)
      (((gSeq (sSet 10 (eFrz (eCall F__law_take (aCons (eV 0) (aCons (eFrz (eLc (iAnyM (eBin ixD (eBin ixD (eV 5) (eV 7)) (eC (.int (0))))) (gtN 14) tYesM (eBin mulD (eV 2) (eV 14)) [14])) (aCons (eV 8) (aCons (eV 9) aNil)))))))
          (gSeq (sSet 11 (eFrz (eCall F__law_take (aCons (eV 1) (aCons (eFrz (eLc (iAnyM (eBin ixD (eBin ixD (eV 5) (eV 7)) (eC (.int (1))))) (gtN 14) tYesM (eBin mulD (eV 2) (eV 14)) [14])) (aCons (eV 8) (aCons (eV 9) aNil)))))))
          (gSeq (sSet 12 (eTup (aCons (eFrz (eCall F__law_cut (aCons (eV 0) (aCons (eBin ixD (eV 10) (eC (.int (0)))) (aCons (eV 2) aNil))))) (aCons (eFrz (eCall F__law_cut (aCons (eV 1) (aCons (eBin ixD (eV 11) (eC (.int (0)))) (aCons (eV 2) aNil))))) aNil))))
          (sIf (cInV w true (eBin addD (eBin ixD (eV 12) (eC (.int (0)))) (eBin ixD (eV 12) (eC (.int (1))))) (eV 6)) (gSeq (sSubV w (eV 6) (eBin addD (eBin ixD (eV 12) (eC (.int (0)))) (eBin ixD (eV 12) (eC (.int (1))))) (eC (.bool true)))
            (sExp (eMt appG (eV 5) (aCons (eV 12) aNil)))) gNil))))) (aR k1 k2 u am st i (.d (.int (u * m))) (.d (.int b)) x10 x11 x12) (aS w k1.length Q)) := by
  simp only [aR, aS]
  have hu1 := hu.1
  obtain ⟨l1, l2⟩ := tk_len2 hs
  rw [lyn_len] at l1 l2
  have b1 := StT_le h1.1 hs.1
  have b2 := StT_le h2.1 hs.2
  have t1 := law_take_ hu (ks := k1) (ss := (s.take k1.length).map (u * ·)) h1.1 (by rw [List.length_map, l1]) (by have := h1.2; omega) (u * m) b
  have t2 := law_take_ hu (ks := k2) (ss := (s.drop k1.length).map (u * ·)) h2.1 (by rw [List.length_map, l2, lyn_len]) (by have := h2.2; omega) (u * m) b
  rw [show (k1.map fun k => sc u (ly k)) = lys u k1 from rfl, lys_lyn, tkL_sc (by omega)] at t1
  rw [show (k2.map fun k => sc u (ly k)) = lys u k2 from rfl, lys_lyn, tkL_sc (by omega)] at t2
  have p1 := (tk_St hs.1 (lyn_g h1.1) hm.1 b).1
  have p2 := (tk_St hs.2 (lyn_g h2.1) hm.1 b).1
  rw [lyn_len] at b1 b2 p1 p2
  have z1 := tkL_len (lyn k1) (s.take k1.length) m b (by rw [lyn_len, l1])
  have z2 := tkL_len (lyn k2) (s.drop k1.length) m b (by rw [l2])
  have ef : stp2 (lyn k1) (lyn k2) s (m, b) = (cutL (lyn k1) (tkL (lyn k1) (s.take k1.length) m b).1 ++ cutL (lyn k2) (tkL (lyn k2) (s.drop k1.length) m b).1, decide ((tkL (lyn k1) (s.take k1.length) m b).2 ≠ (tkL (lyn k2) (s.drop k1.length) m b).2)) := by
    unfold stp2
    rw [lyn_len, p1, p2]
  dsimp only at t1 t2
  generalize tkL (lyn k1) (s.take k1.length) m b = A1 at *
  generalize tkL (lyn k2) (s.drop k1.length) m b = A2 at *
  have c1 := law_cut_ hu (ks := k1) (ss := A1.1) h1.1 (by rw [z1, lyn_len]) (by have := h1.2; omega)
  have c2 := law_cut_ hu (ks := k2) (ss := A2.1) h2.1 (by rw [z2, lyn_len]) (by have := h2.2; omega)
  have y1 := cutL_len (lyn k1) A1.1 z1.symm
  have y2 := cutL_len (lyn k2) A2.1 z2.symm
  generalize cutL (lyn k1) A1.1 = C1 at *
  generalize cutL (lyn k2) A2.1 = C2 at *
  rw [lyn_len] at y1 y2
  have k12 : C1.length + C2.length < 1000 := by have := h1.2; have := h2.2; omega
  have tk1 : C1.length = k1.length := y1
  have eS : encS2 k1.length (C1 ++ C2) = .tuple [.tuple (C1.map .int), .tuple (C2.map .int)] := by
    unfold encS2
    rw [← tk1, List.take_left, List.drop_left]
  have g1 : (s.take k1.length).length < 1000 := by rw [l1]; have := h1.2; omega
  have g2 : (s.drop k1.length).length < 1000 := by rw [l2, lyn_len]; have := h2.2; omega
  have hat' := hat
  rw [show encS2 k1.length s = .tuple [.tuple ((s.take k1.length).map .int), .tuple ((s.drop k1.length).map .int)] from rfl] at hat
  have hat2 := at_nat hat
  have q1 := scale_ (ρ := [.d (.tuple (k1.map (encK u))), .d (.tuple (k2.map (encK u))), .d (.int u), .d am, .d st, .cel 0, .cel 1, .d (.int (i : Nat)), .d (.int (u * m)), .d (.int b), x10, x11, x12, .no, .no]) (cs := [.lst ((Q.map Prod.fst).map (encS2 k1.length)), .dV w ((Q.map Prod.fst).map kT)]) (i := 14) (fe := eBin ixD (eBin ixD (eV 5) (eV 7)) (eC (.int (0)))) (by walk_at "ev") rfl (by simp) (by omega) hu b1 g1
  have q2 := scale_ (ρ := [.d (.tuple (k1.map (encK u))), .d (.tuple (k2.map (encK u))), .d (.int u), .d am, .d st, .cel 0, .cel 1, .d (.int (i : Nat)), .d (.int (u * m)), .d (.int b), .d (.list [.list ((A1.1.map (u * ·)).map .int), .int (u * A1.2)]), x11, x12, .no, .no]) (cs := [.lst ((Q.map Prod.fst).map (encS2 k1.length)), .dV w ((Q.map Prod.fst).map kT)]) (i := 14) (fe := eBin ixD (eBin ixD (eV 5) (eV 7)) (eC (.int (1)))) (by walk_at "ev") rfl (by simp) (by omega) hu b2 g2
  have ev : (stp0 (lyn k1) (lyn k2) s (m, b)).1 = C1 ++ C2 := by unfold stp0; rw [ef]
  have hl2 : ((Q.map Prod.fst).map (encS2 k1.length)).length < 1000000 := by simp; omega
  refine EX_one (fun hp => (by cases hp)) (fun hp hm => ?_) (fun hp hm => ?_)
  · rw [ev] at hm
    have hk := has_kT hm
    apply Exists.intro
    apply Exists.intro
    apply And.intro
    · walk_at "st"
      walk_at "s1"
    · exact ⟨_, _, _, _, rfl, rfl⟩
  · rw [ev] at hm ⊢
    have hk := no_kT hm
    have hp := put_kT hm
    apply Exists.intro
    apply Exists.intro
    apply And.intro
    · walk_at "st"
      walk_at "s1"
    · refine ⟨_, _, _, _, rfl, ?_⟩
      show _ = aS w k1.length _
      unfold aS
      rw [List.map_append (f := Prod.fst), List.map_append (f := encS2 k1.length), List.map_append (f := kT)]
      simp only [List.map_cons, List.map_nil, eS, List.map_append]
theorem la_amount (hu : GU u) (h1 : GT k1) (h2 : GT k2) {s : List Int} (hs : St2 (lyn k1) (lyn k2) s) {m : Int} (hm : 0 ≤ m ∧ m ≤ 100) {Q : List (List Int × List (Int × Int))} (hQ : Q.length < 800000) {run : List (Int × Int)} (am st : D) {i : Nat} (hat : ((Q.map Prod.fst).map (encS2 k1.length))[i]? = some (encS2 k1.length s)) (x9 x10 x11 x12 : S) :
    EX (stp0 (lyn k1) (lyn k2)) s run [(m, 0), (m, 1)] Q (fun Q' ρ cs => ∃ x8 x9 x10 x11 x12, (ρ = aR k1 k2 u am st i x8 x9 x10 x11 x12 ∧ cs = aS w k1.length Q') ∧ ((Q'.map Prod.fst).map (encS2 k1.length))[i]? = some (encS2 k1.length s)) (fun r => .d .none)
      (((sFor (gtN 9) (iAnyM (eTup (aCons (eC (.int (0))) (aCons (eC (.int (1))) aNil)))) (gSeq (sSet 10 (eFrz (eCall F__law_take (aCons (eV 0) (aCons (eFrz (eLc (iAnyM (eBin ixD (eBin ixD (eV 5) (eV 7)) (eC (.int (0))))) (gtN 14) tYesM (eBin mulD (eV 2) (eV 14)) [14])) (aCons (eV 8) (aCons (eV 9) aNil)))))))
          (gSeq (sSet 11 (eFrz (eCall F__law_take (aCons (eV 1) (aCons (eFrz (eLc (iAnyM (eBin ixD (eBin ixD (eV 5) (eV 7)) (eC (.int (1))))) (gtN 14) tYesM (eBin mulD (eV 2) (eV 14)) [14])) (aCons (eV 8) (aCons (eV 9) aNil)))))))
          (gSeq (sSet 12 (eTup (aCons (eFrz (eCall F__law_cut (aCons (eV 0) (aCons (eBin ixD (eV 10) (eC (.int (0)))) (aCons (eV 2) aNil))))) (aCons (eFrz (eCall F__law_cut (aCons (eV 1) (aCons (eBin ixD (eV 11) (eC (.int (0)))) (aCons (eV 2) aNil))))) aNil))))
          (sIf (cInV w true (eBin addD (eBin ixD (eV 12) (eC (.int (0)))) (eBin ixD (eV 12) (eC (.int (1))))) (eV 6)) (gSeq (sSubV w (eV 6) (eBin addD (eBin ixD (eV 12) (eC (.int (0)))) (eBin ixD (eV 12) (eC (.int (1))))) (eC (.bool true)))
            (sExp (eMt appG (eV 5) (aCons (eV 12) aNil)))) gNil)))))) (aR k1 k2 u am st i (.d (.int (u * m))) x9 x10 x11 x12) (aS w k1.length Q)) := by
  have e0 : ((sFor (gtN 9) (iAnyM (eTup (aCons (eC (.int (0))) (aCons (eC (.int (1))) aNil)))) (gSeq (sSet 10 (eFrz (eCall F__law_take (aCons (eV 0) (aCons (eFrz (eLc (iAnyM (eBin ixD (eBin ixD (eV 5) (eV 7)) (eC (.int (0))))) (gtN 14) tYesM (eBin mulD (eV 2) (eV 14)) [14])) (aCons (eV 8) (aCons (eV 9) aNil)))))))
          (gSeq (sSet 11 (eFrz (eCall F__law_take (aCons (eV 1) (aCons (eFrz (eLc (iAnyM (eBin ixD (eBin ixD (eV 5) (eV 7)) (eC (.int (1))))) (gtN 14) tYesM (eBin mulD (eV 2) (eV 14)) [14])) (aCons (eV 8) (aCons (eV 9) aNil)))))))
          (gSeq (sSet 12 (eTup (aCons (eFrz (eCall F__law_cut (aCons (eV 0) (aCons (eBin ixD (eV 10) (eC (.int (0)))) (aCons (eV 2) aNil))))) (aCons (eFrz (eCall F__law_cut (aCons (eV 1) (aCons (eBin ixD (eV 11) (eC (.int (0)))) (aCons (eV 2) aNil))))) aNil))))
          (sIf (cInV w true (eBin addD (eBin ixD (eV 12) (eC (.int (0)))) (eBin ixD (eV 12) (eC (.int (1))))) (eV 6)) (gSeq (sSubV w (eV 6) (eBin addD (eBin ixD (eV 12) (eC (.int (0)))) (eBin ixD (eV 12) (eC (.int (1))))) (eC (.bool true)))
            (sExp (eMt appG (eV 5) (aCons (eV 12) aNil)))) gNil)))))) (aR k1 k2 u am st i (.d (.int (u * m))) x9 x10 x11 x12) (aS w k1.length Q) = gFor (gtN 9) ((gSeq (sSet 10 (eFrz (eCall F__law_take (aCons (eV 0) (aCons (eFrz (eLc (iAnyM (eBin ixD (eBin ixD (eV 5) (eV 7)) (eC (.int (0))))) (gtN 14) tYesM (eBin mulD (eV 2) (eV 14)) [14])) (aCons (eV 8) (aCons (eV 9) aNil)))))))
          (gSeq (sSet 11 (eFrz (eCall F__law_take (aCons (eV 1) (aCons (eFrz (eLc (iAnyM (eBin ixD (eBin ixD (eV 5) (eV 7)) (eC (.int (1))))) (gtN 14) tYesM (eBin mulD (eV 2) (eV 14)) [14])) (aCons (eV 8) (aCons (eV 9) aNil)))))))
          (gSeq (sSet 12 (eTup (aCons (eFrz (eCall F__law_cut (aCons (eV 0) (aCons (eBin ixD (eV 10) (eC (.int (0)))) (aCons (eV 2) aNil))))) (aCons (eFrz (eCall F__law_cut (aCons (eV 1) (aCons (eBin ixD (eV 11) (eC (.int (0)))) (aCons (eV 2) aNil))))) aNil))))
          (sIf (cInV w true (eBin addD (eBin ixD (eV 12) (eC (.int (0)))) (eBin ixD (eV 12) (eC (.int (1))))) (eV 6)) (gSeq (sSubV w (eV 6) (eBin addD (eBin ixD (eV 12) (eC (.int (0)))) (eBin ixD (eV 12) (eC (.int (1))))) (eC (.bool true)))
            (sExp (eMt appG (eV 5) (aCons (eV 12) aNil)))) gNil))))) ([(0 : Int), 1].map .int) (aR k1 k2 u am st i (.d (.int (u * m))) x9 x10 x11 x12) (aS w k1.length Q) := by
    refine q_for ?_ rfl
    simp only [aR, aS, List.map_cons, List.map_nil]
    walk_at "ev"
  rw [e0]
  refine EX_mono (R := fun Q' ρ cs => ((Q'.map Prod.fst).map (encS2 k1.length))[i]? = some (encS2 k1.length s) ∧ ∃ x9 x10 x11 x12, ρ = aR k1 k2 u am st i (.d (.int (u * m))) x9 x10 x11 x12 ∧ cs = aS w k1.length Q') ?_ fun Q' ρ cs _ ⟨a, x9, x10, x11, x12, b⟩ => ⟨_, x9, x10, x11, x12, b, a⟩
  refine for_exp PyData.int (fun b => [(m, b)]) _ _ (Q.length + 2) [0, 1] Q _ _ (fun b _ Q' ρ cs ⟨ha, x9, x10, x11, x12, e1, e2⟩ hl => ?_) ⟨hat, x9, x10, x11, x12, rfl, rfl⟩ (by simp)
  subst e1 e2
  refine ⟨_, rfl, EX_mono (la_step w hu h1 h2 hs hm (by simp only [List.length_singleton] at hl; omega) am st ha x10 x11 x12) fun Q2 ρ cs e ⟨x9, x10, x11, x12, b⟩ => ⟨?_, x9, x10, x11, x12, b⟩⟩
  obtain ⟨R, eR⟩ := expA_grow e
  rw [eR, List.map_append, List.map_append, List.getElem?_append_left (List.getElem?_eq_some_iff.1 ha).1]
  exact ha
noncomputable def resS : Sum (List (Int × Int)) (List (List Int × List (Int × Int))) → Rv
  | .inl r => .d .none
  | .inr Q => .d (.list (sortDt ((Q.map Prod.fst).map tupI)))
theorem la_all (hu : GU u) (h1 : GT k1) (h2 : GT k2) (ha : ∀ m ∈ ams, 0 ≤ m ∧ m ≤ 100) (hl : ams.length ≤ 6) :
    F__law_all_standings K w [.d (.tuple (k1.map (encK u))), .d (.tuple (k2.map (encK u))), .d (.int u), .d (.tuple (ams.map fun m => .int (u * m)))] [] = .ok (match bfsA (stp0 (lyn k1) (lyn k2)) (prs0 ams) 4000 0 [(List.replicate ((lyn k1).length + (lyn k2).length) 0, [])] with
      | some z => resS z
      | none => .d .none) [] := by
  have g1 := lyn_g h1.1
  have g2 := lyn_g h2.1
  have n1 := lyn_len k1
  have n2 := lyn_len k2
  have m1 := h1.2
  have m2 := h2.2
  generalize eam : PyData.tuple (ams.map fun m => .int (u * m)) = am
  generalize est : PyData.tuple [.tuple ((List.replicate k1.length (0 : Int)).map .int), .tuple ((List.replicate k2.length (0 : Int)).map .int)] = st
  have node := for_bfs (f := stp0 (lyn k1) (lyn k2)) (ms := prs0 ams) (tg := gtN 7) (body := (gSeq (sIf (op2 eqD (eV 7) (eCd lenG (aCons (eV 5) aNil))) (sRet (eRv (eCd sortedTG (aCons (eFrz (eKeysV w 13 (eV 6))) aNil)))) gNil)
      (sFor (gtN 8) (iAnyM (eV 3)) (sFor (gtN 9) (iAnyM (eTup (aCons (eC (.int (0))) (aCons (eC (.int (1))) aNil)))) (gSeq (sSet 10 (eFrz (eCall F__law_take (aCons (eV 0) (aCons (eFrz (eLc (iAnyM (eBin ixD (eBin ixD (eV 5) (eV 7)) (eC (.int (0))))) (gtN 14) tYesM (eBin mulD (eV 2) (eV 14)) [14])) (aCons (eV 8) (aCons (eV 9) aNil)))))))
          (gSeq (sSet 11 (eFrz (eCall F__law_take (aCons (eV 1) (aCons (eFrz (eLc (iAnyM (eBin ixD (eBin ixD (eV 5) (eV 7)) (eC (.int (1))))) (gtN 14) tYesM (eBin mulD (eV 2) (eV 14)) [14])) (aCons (eV 8) (aCons (eV 9) aNil)))))))
          (gSeq (sSet 12 (eTup (aCons (eFrz (eCall F__law_cut (aCons (eV 0) (aCons (eBin ixD (eV 10) (eC (.int (0)))) (aCons (eV 2) aNil))))) (aCons (eFrz (eCall F__law_cut (aCons (eV 1) (aCons (eBin ixD (eV 11) (eC (.int (0)))) (aCons (eV 2) aNil))))) aNil))))
          (sIf (cInV w true (eBin addD (eBin ixD (eV 12) (eC (.int (0)))) (eBin ixD (eV 12) (eC (.int (1))))) (eV 6)) (gSeq (sSubV w (eV 6) (eBin addD (eBin ixD (eV 12) (eC (.int (0)))) (eBin ixD (eV 12) (eC (.int (1))))) (eC (.bool true)))
            (sExp (eMt appG (eV 5) (aCons (eV 12) aNil)))) gNil)))))))) (fun i Q ρ cs => (InvQ (lyn k1) (lyn k2) 12 i Q ∧ Q ≠ []) ∧ ∃ s7 x8 x9 x10 x11 x12, ρ = [.d (.tuple (k1.map (encK u))), .d (.tuple (k2.map (encK u))), .d (.int u), .d am, .d st, .cel 0, .cel 1, s7, x8, x9, x10, x11, x12, .no, .no] ∧ cs = aS w k1.length Q) resS 4000 (fun i Q ρ cs hi ⟨⟨iv, hne⟩, s7, x8, x9, x10, x11, x12, e1, e2⟩ => by
    subst e1 e2
    have hQ : Q.length ≤ 60001 := by have := iv.len; omega
    refine ⟨_, rfl, fun hn => ?_, fun s run hq => ?_⟩
    · have hln : ((i : Nat) : Int) = (((Q.map Prod.fst).map (encS2 k1.length)).length : Nat) := by
        have := List.getElem?_eq_none_iff.1 hn
        have := iv.pos
        rw [List.length_map, List.length_map]; omega
      have hs : sortedTG [.list (((Q.map Prod.fst).map kT).map fun q => q.1.data)] = some (.list (sortDt ((Q.map Prod.fst).map fun q => .tuple (q.map .int)))) := by
        rw [keys_dat]
        exact sortedTG_ints (Q.map Prod.fst) (nd_sort iv hne) (by rw [List.length_map]; omega)
      have hlk : ((Q.map Prod.fst).map kT).length < 1000000 := by simp; omega
      refine ⟨[.lst ((Q.map Prod.fst).map (encS2 k1.length)), .dV w ((Q.map Prod.fst).map kT)], ?_⟩
      simp only [aS, List.set_cons_succ, List.set_cons_zero]
      refine q_finr (r := .d (.list (sortDt ((Q.map Prod.fst).map fun q => .tuple (q.map .int))))) ?_ rfl rfl
      walk_at "s1"
    · have hln : ¬ ((i : Nat) : Int) = (((Q.map Prod.fst).map (encS2 k1.length)).length : Nat) := by
        have := (List.getElem?_eq_some_iff.1 hq).1
        rw [List.length_map, List.length_map]; omega
      have hat : ((Q.map Prod.fst).map (encS2 k1.length))[i]? = some (encS2 k1.length s) := by rw [List.getElem?_map, List.getElem?_map, hq]; rfl
      have hm := List.mem_of_getElem? hq
      have eo : ((gSeq (sIf (op2 eqD (eV 7) (eCd lenG (aCons (eV 5) aNil))) (sRet (eRv (eCd sortedTG (aCons (eFrz (eKeysV w 13 (eV 6))) aNil)))) gNil)
      (sFor (gtN 8) (iAnyM (eV 3)) (sFor (gtN 9) (iAnyM (eTup (aCons (eC (.int (0))) (aCons (eC (.int (1))) aNil)))) (gSeq (sSet 10 (eFrz (eCall F__law_take (aCons (eV 0) (aCons (eFrz (eLc (iAnyM (eBin ixD (eBin ixD (eV 5) (eV 7)) (eC (.int (0))))) (gtN 14) tYesM (eBin mulD (eV 2) (eV 14)) [14])) (aCons (eV 8) (aCons (eV 9) aNil)))))))
          (gSeq (sSet 11 (eFrz (eCall F__law_take (aCons (eV 1) (aCons (eFrz (eLc (iAnyM (eBin ixD (eBin ixD (eV 5) (eV 7)) (eC (.int (1))))) (gtN 14) tYesM (eBin mulD (eV 2) (eV 14)) [14])) (aCons (eV 8) (aCons (eV 9) aNil)))))))
          (gSeq (sSet 12 (eTup (aCons (eFrz (eCall F__law_cut (aCons (eV 0) (aCons (eBin ixD (eV 10) (eC (.int (0)))) (aCons (eV 2) aNil))))) (aCons (eFrz (eCall F__law_cut (aCons (eV 1) (aCons (eBin ixD (eV 11) (eC (.int (0)))) (aCons (eV 2) aNil))))) aNil))))
          (sIf (cInV w true (eBin addD (eBin ixD (eV 12) (eC (.int (0)))) (eBin ixD (eV 12) (eC (.int (1))))) (eV 6)) (gSeq (sSubV w (eV 6) (eBin addD (eBin ixD (eV 12) (eC (.int (0)))) (eBin ixD (eV 12) (eC (.int (1))))) (eC (.bool true)))
            (sExp (eMt appG (eV 5) (aCons (eV 12) aNil)))) gNil)))))))) ([.d (.tuple (k1.map (encK u))), .d (.tuple (k2.map (encK u))), .d (.int u), .d am, .d st, .cel 0, .cel 1, s7, x8, x9, x10, x11, x12, .no, .no].set 7 (.d (.int (i : Nat)))) (aS w k1.length Q) = gFor (gtN 8) ((sFor (gtN 9) (iAnyM (eTup (aCons (eC (.int (0))) (aCons (eC (.int (1))) aNil)))) (gSeq (sSet 10 (eFrz (eCall F__law_take (aCons (eV 0) (aCons (eFrz (eLc (iAnyM (eBin ixD (eBin ixD (eV 5) (eV 7)) (eC (.int (0))))) (gtN 14) tYesM (eBin mulD (eV 2) (eV 14)) [14])) (aCons (eV 8) (aCons (eV 9) aNil)))))))
          (gSeq (sSet 11 (eFrz (eCall F__law_take (aCons (eV 1) (aCons (eFrz (eLc (iAnyM (eBin ixD (eBin ixD (eV 5) (eV 7)) (eC (.int (1))))) (gtN 14) tYesM (eBin mulD (eV 2) (eV 14)) [14])) (aCons (eV 8) (aCons (eV 9) aNil)))))))
          (gSeq (sSet 12 (eTup (aCons (eFrz (eCall F__law_cut (aCons (eV 0) (aCons (eBin ixD (eV 10) (eC (.int (0)))) (aCons (eV 2) aNil))))) (aCons (eFrz (eCall F__law_cut (aCons (eV 1) (aCons (eBin ixD (eV 11) (eC (.int (0)))) (aCons (eV 2) aNil))))) aNil))))
          (sIf (cInV w true (eBin addD (eBin ixD (eV 12) (eC (.int (0)))) (eBin ixD (eV 12) (eC (.int (1))))) (eV 6)) (gSeq (sSubV w (eV 6) (eBin addD (eBin ixD (eV 12) (eC (.int (0)))) (eBin ixD (eV 12) (eC (.int (1))))) (eC (.bool true)))
            (sExp (eMt appG (eV 5) (aCons (eV 12) aNil)))) gNil)))))) (ams.map fun m => .int (u * m)) (aR k1 k2 u am st i x8 x9 x10 x11 x12) (aS w k1.length Q) := by
        subst eam
        simp only [aS, aR, List.set_cons_succ, List.set_cons_zero]
        walk_at "st"
        refine q_for (xs := ams.map fun m => .int (u * m)) ?_ rfl
        walk_at "ev"
      rw [eo]
      refine EX_mono (R := fun Q' ρ cs => ∃ x8 x9 x10 x11 x12, (ρ = aR k1 k2 u am st i x8 x9 x10 x11 x12 ∧ cs = aS w k1.length Q') ∧ ((Q'.map Prod.fst).map (encS2 k1.length))[i]? = some (encS2 k1.length s)) ?_ fun Q' ρ cs e ⟨y8, y9, y10, y11, y12, ⟨b, c⟩, d⟩ => ⟨⟨iv.step (f := stp0 (lyn k1) (lyn k2)) g1 g2 hq (fun m hm => (ha _ (prs0_mem hm)).1) (by rw [prs0_len]; omega) (fun _ _ => rfl) e, ?_⟩, _, y8, y9, y10, y11, y12, b, c⟩
      · refine for_exp (fun m => PyData.int (u * m)) (fun m => [(m, 0), (m, 1)]) _ _ 70000 ams Q _ _ (fun m hm' Q' ρ cs ⟨y8, y9, y10, y11, y12, ⟨b, c⟩, d⟩ hl' => ?_) ⟨x8, x9, x10, x11, x12, ⟨rfl, rfl⟩, hat⟩ ?_
        · subst b c
          exact ⟨_, rfl, la_amount w hu h1 h2 (iv.st _ hm) (ha m hm') (by omega) am st d y9 y10 y11 y12⟩
        · have := prs0_len ams
          unfold prs0 at this
          omega
      · obtain ⟨R, eR⟩ := expA_grow e
        rw [eR]
        simp [hne]) 4000 0 [(List.replicate ((lyn k1).length + (lyn k2).length) 0, [])] [.d (.tuple (k1.map (encK u))), .d (.tuple (k2.map (encK u))), .d (.int u), .d am, .d st, .cel 0, .cel 1, .no, .no, .no, .no, .no, .no, .no, .no] (aS w k1.length [(List.replicate ((lyn k1).length + (lyn k2).length) 0, [])]) (Nat.le_refl _) ⟨⟨InvQ.start g1 g2 12, by simp⟩, _, _, _, _, _, _, rfl, rfl⟩
  have eS : encS2 k1.length (List.replicate (k1.length + k2.length) 0) = st := by
    rw [← est]
    unfold encS2
    rw [List.take_replicate, List.drop_replicate, show min k1.length (k1.length + k2.length) = k1.length by omega, show k1.length + k2.length - k1.length = k2.length by omega]
  have eW : aS w k1.length [(List.replicate ((lyn k1).length + (lyn k2).length) 0, [])] = [.lst [st], .dV w [kT (List.replicate k1.length 0 ++ List.replicate k2.length 0)]] := by
    rw [n1, n2]
    unfold aS
    rw [List.map_cons, List.map_nil, List.map_cons, List.map_nil, List.map_cons, List.map_nil, List.replicate_append_replicate, eS]
  rw [eW] at node
  have z1 : mulE (.tuple [.int 0]) (.int ((k1.map (encK u)).length : Nat)) = some (.tuple ((List.replicate k1.length (0 : Int)).map .int)) := by
    rw [List.length_map]; exact mulE_zeros _ (by omega)
  have z2 : mulE (.tuple [.int 0]) (.int ((k2.map (encK u)).length : Nat)) = some (.tuple ((List.replicate k2.length (0 : Int)).map .int)) := by
    rw [List.length_map]; exact mulE_zeros _ (by omega)
  have hp : gpK [] (kI (List.replicate k1.length 0 ++ List.replicate k2.length 0)) (.bool true) = [kT (List.replicate k1.length 0 ++ List.replicate k2.length 0)] := rfl
  have hr : ∀ (ρ : List S) (cs : Store), iRng (eC (.int (4000))) ρ cs = .ok (upTo 0 4000) cs := fun ρ cs => q_rng (n := 4000) rfl (by omega)
  subst est
  have hr' := hr [.d (.tuple (k1.map (encK u))), .d (.tuple (k2.map (encK u))), .d (.int u), .d am, .d (.tuple [.tuple ((List.replicate k1.length (0 : Int)).map .int), .tuple ((List.replicate k2.length (0 : Int)).map .int)]), .cel 0, .cel 1, .no, .no, .no, .no, .no, .no, .no, .no] [.lst [.tuple [.tuple ((List.replicate k1.length (0 : Int)).map .int), .tuple ((List.replicate k2.length (0 : Int)).map .int)]], .dV w [kT (List.replicate k1.length 0 ++ List.replicate k2.length 0)]]
  unfold F__law_all_standings B__law_all_standings
  cases ez : bfsA (stp0 (lyn k1) (lyn k2)) (prs0 ams) 4000 0 [(List.replicate ((lyn k1).length + (lyn k2).length) 0, [])] with
  | some z =>
    rw [ez] at node
    obtain ⟨cs2, node⟩ := node
    refine q_run (by walk_at "rep") (r := resS z) (cs1 := cs2) ?_ rfl ?_
    · walk_at "st"
      walk_at "s1"
    · cases z <;> rfl
  | none =>
    rw [ez] at node
    obtain ⟨ρ2, cs2, node⟩ := node
    refine q_run (by walk_at "rep") (r := .d .none) (cs1 := cs2) ?_ rfl rfl
    walk_at "st"
    walk_at "s1"
end
theorem cutD_to (xs : List D) (k : Nat) : cutD xs none (some (k : Int)) = xs.take k := by
  unfold cutD
  rw [HT.sIx_none, HT.sIx_nat, List.drop_zero, Nat.sub_zero]
  by_cases h : k ≤ xs.length
  · rw [Nat.min_eq_left h]
  · rw [Nat.min_eq_right (by omega), List.take_of_length_le (Nat.le_refl _), List.take_of_length_le (by omega)]
theorem sl_take {xs : List D} {n : Nat} (h : n ≤ xs.length) : slD (.tuple xs) none (some (n : Int)) = some (.tuple (xs.take n)) := by
  rw [slD_tuple, cutD_to]
theorem sl_drop {xs : List D} {n : Nat} : slD (.tuple xs) (some (n : Int)) none = some (.tuple (xs.drop n)) := by
  rw [slD_tuple, cutD_from]
abbrev TwC (K : PySem.W.Frag) : Addr := He.ga K "Towers"
def encP (u : Int) (r : Int × Int) : D := .tuple [encM u r, .int r.1, .int r.2]
abbrev tw1 (T : D) : List (Str × S) := [("towers", .d T)]
abbrev tw2 (T : D) : List (Str × S) := [("towers", .d T), ("layers", .cel 2)]
abbrev tw3 (T : D) : List (Str × S) := [("towers", .d T), ("layers", .cel 2), ("pairs", .cel 3)]
abbrev tw4 (T st : D) : List (Str × S) := [("towers", .d T), ("layers", .cel 2), ("pairs", .cel 3), ("start", .d st)]
abbrev tw5 (T st : D) : List (Str × S) := [("towers", .d T), ("layers", .cel 2), ("pairs", .cel 3), ("start", .d st), ("standings", .cel 4)]
theorem pf2 (T : D) : putFS "layers" (.cel 2) (tw1 T) = tw2 T := rfl
theorem pf3 (T : D) : putFS "pairs" (.cel 3) (tw2 T) = tw3 T := rfl
theorem pf4 (T st : D) : putFS "start" (.d st) (tw3 T) = tw4 T st := rfl
theorem pf5 (T st : D) : putFS "standings" (.cel 4) (tw4 T st) = tw5 T st := rfl
local macro_rules | `(tactic| walk_at "pf1") => `(tactic| first | with_reducible exact pf_nil _ _ | with_reducible exact pf2 _ | with_reducible exact pf3 _ | with_reducible exact pf4 _ _ | with_reducible exact pf5 _ _)
section
variable (K : PySem.W.Frag) (w : PySem.World) {u : Int} {k1 k2 : List Kd} {ams : List Int}
abbrev twT (k1 k2 : List Kd) (u : Int) : D := .tuple [.tuple (k1.map (encK u)), .tuple (k2.map (encK u))]
abbrev twL (k1 k2 : List Kd) : OC := .lst [.list ((lyn k1).map encLy), .list ((lyn k2).map encLy)]
theorem after_ (h1 : GT k1) (h2 : GT k2) {s : List Int} (hs : St2 (lyn k1) (lyn k2) s) (m b : Int) (st : D) (nm : OC) (X : Store) :
    F_Towers_after K w [.cel 0, .d (.tuple (s.map .int)), .d (.int m), .d (.int b)] (.ins (TwC K) (tw5 (twT k1 k2 u) st) :: nm :: twL k1 k2 :: X) = .ok (.d (.tuple [.tuple ((stp2 (lyn k1) (lyn k2) s (m, b)).1.map .int), .int (tkP (lyn k1) (s.take k1.length) m b).2, .int (tkP (lyn k2) (s.drop k1.length) m b).2])) (.ins (TwC K) (tw5 (twT k1 k2 u) st) :: nm :: twL k1 k2 :: X) := by
  obtain ⟨l1, l2⟩ := tk_len2 hs
  rw [lyn_len] at l1 l2
  rw [lyn_len] at l2
  have hl := hs.len
  rw [lyn_len, lyn_len] at hl
  have m1 := h1.2
  have m2 := h2.2
  have e1 : slD (.tuple (s.map .int)) none (some ((k1.map (encK u)).length : Nat)) = some (.tuple ((s.take k1.length).map .int)) := by
    rw [List.length_map, sl_take (by rw [List.length_map]; omega), List.map_take]
  have e2 : slD (.tuple (s.map .int)) (some ((k1.map (encK u)).length : Nat)) none = some (.tuple ((s.drop k1.length).map .int)) := by
    rw [List.length_map, sl_drop, List.map_drop]
  have t1 := taken_ (u := u) (Ls := lyn k1) (ss := s.take k1.length) h1.1 (by unfold lyn; rw [List.map_map]; rfl) l1.symm (by omega) m b
  have t2 := taken_ (u := u) (Ls := lyn k2) (ss := s.drop k1.length) h2.1 (by unfold lyn; rw [List.map_map]; rfl) l2.symm (by omega) m b
  have y1 := tkP_len (lyn k1) (s.take k1.length) m b (by rw [lyn_len, l1])
  have y2 := tkP_len (lyn k2) (s.drop k1.length) m b (by rw [lyn_len, l2])
  rw [lyn_len] at y1 y2
  unfold stp2
  rw [lyn_len]
  dsimp only
  generalize tkP (lyn k1) (s.take k1.length) m b = A1 at *
  generalize tkP (lyn k2) (s.drop k1.length) m b = A2 at *
  have e3 : addD (.tuple (A1.1.map .int)) (.tuple (A2.1.map .int)) = some (.tuple ((A1.1 ++ A2.1).map .int)) := by
    rw [p_addt (by simp; omega), List.map_append]
  unfold F_Towers_after B_Towers_after
  refine q_runW (by walk_at "rep") ?_
  walk_at "st"
  walk_at "s1"
end
theorem EX_seq {σ μ : Type} [DecidableEq σ] {f : σ → μ → σ × Bool} {s : σ} {run ms : List μ} {Q : List (σ × List μ)} {R R' : List (σ × List μ) → List S → Store → Prop} {res : List μ → Rv} {g h : G} {ρ : List S} {cs : Store} (h1 : EX f s run ms Q R res (g ρ cs)) (h2 : ∀ Q' ρ2 cs2, expA f s run ms Q = .inr Q' → R Q' ρ2 cs2 → ∃ ρ3 cs3, h ρ2 cs2 = .nx ρ3 cs3 ∧ R' Q' ρ3 cs3) : EX f s run ms Q R' res (gSeq g h ρ cs) := by
  unfold EX at h1 ⊢
  cases e : expA f s run ms Q with
  | inl r =>
    rw [e] at h1
    obtain ⟨cs2, h1⟩ := h1
    exact ⟨cs2, seq_rt h1⟩
  | inr Q' =>
    rw [e] at h1
    obtain ⟨ρ2, cs2, h3, h4⟩ := h1
    obtain ⟨ρ3, cs3, h5, h6⟩ := h2 Q' ρ2 cs2 e h4
    exact ⟨ρ3, cs3, seq_nx h3 h5, h6⟩
theorem forC_eq {tg : D → List S → Option (List S)} {it : List S → M (Nat × List D)} {body : G} {ρ : List S} {cs cs1 : Store} {j : Nat} {xs : List D} (h : it ρ cs = .ok (j, xs) cs1) : sForC tg it body ρ cs = gForC j xs tg body xs ρ cs1 := by
  unfold sForC
  rw [stp_, h]
section
variable (K : PySem.W.Frag) (w : PySem.World) {u : Int} {k1 k2 : List Kd} {ams : List Int}
abbrev cS (K : PySem.W.Frag) (w : PySem.World) (k1 k2 : List Kd) (u : Int) (st : D) (nm : OC) (P : List D) (Q : List (List Int × List (Int × Int))) : Store := [.ins (TwC K) (tw5 (twT k1 k2 u) st), nm, twL k1 k2, .lst P, .lst ((Q.map Prod.fst).map tupI), .dV w ((Q.map Prod.fst).map kT)]
theorem cs_step (h1 : GT k1) (h2 : GT k2) {s : List Int} (hs : St2 (lyn k1) (lyn k2) s) {C0 : List (List Int)} (hC : C0.length ≤ 4000) {Q : List (List Int × List (Int × Int))} (hQ : (Q.map Prod.fst).Nodup) (hsub : ∀ q ∈ Q.map Prod.fst, q ∈ C0) {r : Int × Int} (hc : (stp2 (lyn k1) (lyn k2) s r).1 ∈ C0) {run : List (Int × Int)} (st : D) (nm : OC) (P : List D) {i : Nat} (hat : (Q.map Prod.fst)[i]? = some s) (x6 : S) :
    EX (stp0 (lyn k1) (lyn k2)) s run [r] Q (fun Q' ρ cs => ∃ x3 x4 x5 x6, ρ = [.cel 0, .cel 5, .d (.int (i : Nat)), x3, x4, x5, x6] ∧ cs = cS K w k1 k2 u st nm P Q') (fun r => .d .none)
      (((gSeq (sSet 6 (eBin ixD (eFrz (eMethW (He.ga K "Towers") "after" (F_Towers_after K w) (eV 0) (aCons (eBin ixD (eFld (He.ga K "Towers") "standings" (eV 0)) (eV 2)) (aCons (eV 4) (aCons (eV 5) aNil))))) (eC (.int (0)))))
        (sIf (cInV w true (eV 6) (eV 1)) (gSeq (sIf (op2 eqD (eCd lenG (aCons (eFld (He.ga K "Towers") "standings" (eV 0)) aNil)) (eC (.int (4000)))) (sErr "TooLarge") gNil)
          (gSeq (sSubV w (eV 1) (eV 6) (eC (.bool true)))
          (sExp (eMt appG (eFld (He.ga K "Towers") "standings" (eV 0)) (aCons (eV 6) aNil))))) gNil))) [.cel 0, .cel 5, .d (.int (i : Nat)), .d (encM u r), .d (.int r.1), .d (.int r.2), x6] (cS K w k1 k2 u st nm P Q)) := by
  have ca := after_ K w (u := u) h1 h2 hs r.1 r.2 st nm [.lst P, .lst ((Q.map Prod.fst).map tupI), .dV w ((Q.map Prod.fst).map kT)]
  have hat2 : atI ((Q.map Prod.fst).map tupI) (i : Nat) = some (.tuple (s.map .int)) := at_nat (by rw [List.getElem?_map, hat]; rfl)
  have ev : (stp0 (lyn k1) (lyn k2) s r).1 = (stp2 (lyn k1) (lyn k2) s r).1 := rfl
  have e2 : stp2 (lyn k1) (lyn k2) s (r.1, r.2) = stp2 (lyn k1) (lyn k2) s r := rfl
  rw [e2] at ca
  have hlen : Q.length ≤ C0.length := by
    have := nodup_sub_len hQ hsub
    rwa [List.length_map] at this
  simp only [cS, twL] at *
  generalize (stp2 (lyn k1) (lyn k2) s r).1 = s' at *
  refine EX_one (fun hp => (by cases hp)) (fun hp hm => ?_) (fun hp hm => ?_)
  · rw [ev] at hm
    have hk := has_kT hm
    apply Exists.intro
    apply Exists.intro
    apply And.intro
    · walk_at "st"
      walk_at "s1"
    · exact ⟨_, _, _, _, rfl, rfl⟩
  · rw [ev] at hm ⊢
    have hk := no_kT hm
    have hp := put_kT hm
    have hl3 : Q.length + 1 ≤ C0.length := by
      have := nodup_sub_len (Q := Q.map Prod.fst ++ [s']) (R := C0) (by
        rw [List.nodup_append]
        exact ⟨hQ, by simp, fun a ha b hb e => by
          rw [List.mem_singleton] at hb
          exact hm (by rw [← hb, ← e]; exact ha)⟩) (fun x hx => by
        rw [List.mem_append, List.mem_singleton] at hx
        rcases hx with hx | rfl
        · exact hsub x hx
        · exact hc)
      simpa using this
    have hne : ¬ ((((Q.map Prod.fst).map tupI).length : Nat) : Int) = 4000 := by
      rw [List.length_map, List.length_map]; omega
    have hl4 : ((Q.map Prod.fst).map tupI).length < 1000000 := by
      rw [List.length_map, List.length_map]; omega
    have hl5 : ((Q.map Prod.fst).map kT).length < 1000000 := by
      rw [List.length_map, List.length_map]; omega
    apply Exists.intro
    apply Exists.intro
    apply And.intro
    · walk_at "st"
      walk_at "s1"
    · refine ⟨_, _, _, _, rfl, ?_⟩
      rw [List.map_append (f := Prod.fst), List.map_append (f := tupI)]
      rfl
end
local macro_rules | `(tactic| walk_at "pf1") => `(tactic| first | with_reducible exact pf_nil _ _ | with_reducible exact pf2 _ | with_reducible exact pf3 _ | with_reducible exact pf4 _ _ | with_reducible exact pf5 _ _)
section
variable (K : PySem.W.Frag) (w : PySem.World) {u : Int} {k1 k2 : List Kd} {ams : List Int}
/-- what the steps stay in -/
def ClsT (T1 T2 : List Ly) (ams : List Int) (C0 : List (List Int)) : Prop := (∀ s ∈ C0, ∀ m ∈ prs ams, (stp2 T1 T2 s m).1 ∈ C0) ∧ List.replicate (T1.length + T2.length) 0 ∈ C0 ∧ C0.length ≤ 4000
theorem flat_one {α β : Type} (xs : List α) (f : α → β) : (xs.flatMap fun x => [f x]) = xs.map f := by
  induction xs with
  | nil => rfl
  | cons x xs ih => rw [List.flatMap_cons, ih]; rfl
theorem cs_ (h1 : GT k1) (h2 : GT k2) (ha : ∀ m ∈ ams, 0 ≤ m ∧ m ≤ 100) (hl : ams.length ≤ 6) {C0 : List (List Int)} (hC : ClsT (lyn k1) (lyn k2) ams C0) {Q' : List (List Int × List (Int × Int))} (hz : bfsA (stp0 (lyn k1) (lyn k2)) (prs ams) 5000 0 [(List.replicate ((lyn k1).length + (lyn k2).length) 0, [])] = some (.inr Q')) (nm : OC) :
    F_Towers_check_standings K w [.cel 0] [.ins (TwC K) (tw4 (twT k1 k2 u) (tupI (List.replicate ((lyn k1).length + (lyn k2).length) 0))), nm, twL k1 k2, .lst ((prs ams).map (encP u))] = .ok (.d .none) (cS K w k1 k2 u (tupI (List.replicate ((lyn k1).length + (lyn k2).length) 0)) nm ((prs ams).map (encP u)) Q') := by
  have g1 := lyn_g h1.1
  have g2 := lyn_g h2.1
  generalize est : tupI (List.replicate ((lyn k1).length + (lyn k2).length) 0) = st
  generalize eP : (prs ams).map (encP u) = P
  have node := wh_bfs (f := stp0 (lyn k1) (lyn k2)) (ms := prs ams) (t := (op2 ltD (eV 2) (eCd lenG (aCons (eFld (He.ga K "Towers") "standings" (eV 0)) aNil)))) (body := (gSeq (sForC (gtT (gtsCons (gtN 3) (gtsCons (gtN 4) (gtsCons (gtN 5) gtsNil)))) (iCel (eFld (He.ga K "Towers") "pairs" (eV 0))) (gSeq (sSet 6 (eBin ixD (eFrz (eMethW (He.ga K "Towers") "after" (F_Towers_after K w) (eV 0) (aCons (eBin ixD (eFld (He.ga K "Towers") "standings" (eV 0)) (eV 2)) (aCons (eV 4) (aCons (eV 5) aNil))))) (eC (.int (0)))))
        (sIf (cInV w true (eV 6) (eV 1)) (gSeq (sIf (op2 eqD (eCd lenG (aCons (eFld (He.ga K "Towers") "standings" (eV 0)) aNil)) (eC (.int (4000)))) (sErr "TooLarge") gNil)
          (gSeq (sSubV w (eV 1) (eV 6) (eC (.bool true)))
          (sExp (eMt appG (eFld (He.ga K "Towers") "standings" (eV 0)) (aCons (eV 6) aNil))))) gNil)))
      (sSet 2 (eBin addD (eV 2) (eC (.int (1))))))) (fun i Q ρ cs => (InvQ (lyn k1) (lyn k2) 12 i Q ∧ ∀ q ∈ Q.map Prod.fst, q ∈ C0) ∧ ∃ x3 x4 x5 x6, ρ = [.cel 0, .cel 5, .d (.int (i : Nat)), x3, x4, x5, x6] ∧ cs = cS K w k1 k2 u st nm P Q) (fun r => .d .none) 5000 (fun i Q ρ cs hi ⟨⟨iv, hsub⟩, x3, x4, x5, x6, e1, e2⟩ => by
    subst e1 e2
    refine ⟨fun hn => ?_, fun s run hq => ?_⟩
    · have : Q.length ≤ i := List.getElem?_eq_none_iff.1 hn
      refine q_cast (z := decide (((i : Nat) : Int) < ((((Q.map Prod.fst).map tupI).length : Nat) : Int))) ?_ (decide_eq_false (by rw [List.length_map, List.length_map]; omega))
      simp only [cS]
      walk_at "ev"
    · have hli := (List.getElem?_eq_some_iff.1 hq).1
      have hm := List.mem_of_getElem? hq
      have hat : (Q.map Prod.fst)[i]? = some s := by rw [List.getElem?_map, hq]; rfl
      have hsC : s ∈ C0 := hsub s (List.mem_of_getElem? hat)
      refine ⟨?_, ?_⟩
      · refine q_cast (z := decide (((i : Nat) : Int) < ((((Q.map Prod.fst).map tupI).length : Nat) : Int))) ?_ (decide_eq_true (by rw [List.length_map, List.length_map]; omega))
        simp only [cS]
        walk_at "ev"
      · refine EX_seq (R := fun Q' ρ cs => ((InvQ (lyn k1) (lyn k2) 12 i Q ∧ (Q'.map Prod.fst).Nodup ∧ ∀ q ∈ Q'.map Prod.fst, q ∈ C0) ∧ (Q'.map Prod.fst)[i]? = some s) ∧ ∃ x3 x4 x5 x6, ρ = [.cel 0, .cel 5, .d (.int (i : Nat)), x3, x4, x5, x6] ∧ cs = cS K w k1 k2 u st nm P Q') ?_ ?_
        · have fc : sForC ((gtT (gtsCons (gtN 3) (gtsCons (gtN 4) (gtsCons (gtN 5) gtsNil))))) (iCel (eFld (He.ga K "Towers") "pairs" (eV 0))) ((gSeq (sSet 6 (eBin ixD (eFrz (eMethW (He.ga K "Towers") "after" (F_Towers_after K w) (eV 0) (aCons (eBin ixD (eFld (He.ga K "Towers") "standings" (eV 0)) (eV 2)) (aCons (eV 4) (aCons (eV 5) aNil))))) (eC (.int (0)))))
        (sIf (cInV w true (eV 6) (eV 1)) (gSeq (sIf (op2 eqD (eCd lenG (aCons (eFld (He.ga K "Towers") "standings" (eV 0)) aNil)) (eC (.int (4000)))) (sErr "TooLarge") gNil)
          (gSeq (sSubV w (eV 1) (eV 6) (eC (.bool true)))
          (sExp (eMt appG (eFld (He.ga K "Towers") "standings" (eV 0)) (aCons (eV 6) aNil))))) gNil))) [.cel 0, .cel 5, .d (.int (i : Nat)), x3, x4, x5, x6] (cS K w k1 k2 u st nm P Q) = gForC 3 P ((gtT (gtsCons (gtN 3) (gtsCons (gtN 4) (gtsCons (gtN 5) gtsNil))))) ((gSeq (sSet 6 (eBin ixD (eFrz (eMethW (He.ga K "Towers") "after" (F_Towers_after K w) (eV 0) (aCons (eBin ixD (eFld (He.ga K "Towers") "standings" (eV 0)) (eV 2)) (aCons (eV 4) (aCons (eV 5) aNil))))) (eC (.int (0)))))
        (sIf (cInV w true (eV 6) (eV 1)) (gSeq (sIf (op2 eqD (eCd lenG (aCons (eFld (He.ga K "Towers") "standings" (eV 0)) aNil)) (eC (.int (4000)))) (sErr "TooLarge") gNil)
          (gSeq (sSubV w (eV 1) (eV 6) (eC (.bool true)))
          (sExp (eMt appG (eFld (He.ga K "Towers") "standings" (eV 0)) (aCons (eV 6) aNil))))) gNil))) P [.cel 0, .cel 5, .d (.int (i : Nat)), x3, x4, x5, x6] (cS K w k1 k2 u st nm P Q) := by
            refine forC_eq (iCel_of ?_ rfl)
            simp only [cS]
            walk_at "ev"
          rw [fc]
          subst eP
          have fe := for_expC (f := stp0 (lyn k1) (lyn k2)) (s := s) (run := run) (tg := (gtT (gtsCons (gtN 3) (gtsCons (gtN 4) (gtsCons (gtN 5) gtsNil))))) (body := (gSeq (sSet 6 (eBin ixD (eFrz (eMethW (He.ga K "Towers") "after" (F_Towers_after K w) (eV 0) (aCons (eBin ixD (eFld (He.ga K "Towers") "standings" (eV 0)) (eV 2)) (aCons (eV 4) (aCons (eV 5) aNil))))) (eC (.int (0)))))
        (sIf (cInV w true (eV 6) (eV 1)) (gSeq (sIf (op2 eqD (eCd lenG (aCons (eFld (He.ga K "Towers") "standings" (eV 0)) aNil)) (eC (.int (4000)))) (sErr "TooLarge") gNil)
          (gSeq (sSubV w (eV 1) (eV 6) (eC (.bool true)))
          (sExp (eMt appG (eFld (He.ga K "Towers") "standings" (eV 0)) (aCons (eV 6) aNil))))) gNil))) (j := 3) (ys := (prs ams).map (encP u)) (encP u) (fun r => [r]) (fun Q' ρ cs => ((InvQ (lyn k1) (lyn k2) 12 i Q ∧ (Q'.map Prod.fst).Nodup ∧ ∀ q ∈ Q'.map Prod.fst, q ∈ C0) ∧ (Q'.map Prod.fst)[i]? = some s) ∧ ∃ x3 x4 x5 x6, ρ = [.cel 0, .cel 5, .d (.int (i : Nat)), x3, x4, x5, x6] ∧ cs = cS K w k1 k2 u st nm ((prs ams).map (encP u)) Q') (fun r => .d .none) 100000 (fun Q ρ cs ⟨_, x3, x4, x5, x6, _, e2⟩ => by subst e2; rfl) (prs ams) Q [.cel 0, .cel 5, .d (.int (i : Nat)), x3, x4, x5, x6] (cS K w k1 k2 u st nm ((prs ams).map (encP u)) Q) (fun r hr Q2 ρ cs ⟨⟨⟨_, nd, sub⟩, at2⟩, y3, y4, y5, y6, e1, e2⟩ hl2 => by
            subst e1 e2
            refine ⟨_, rfl, EX_mono (cs_step K w h1 h2 (iv.st _ hm) hC.2.2 nd sub (hC.1 s hsC r hr) st nm _ at2 y6) fun Q3 ρ cs e z => ⟨⟨⟨iv, ?_, ?_⟩, ?_⟩, z⟩⟩
            · rw [expA_S e]
              exact expS_nodup _ _ _ _ nd
            · intro q hq'
              obtain ⟨p, hp, rfl⟩ := List.mem_map.1 hq'
              rcases expA_mem e p hp with hp | ⟨m, hm', rfl, _⟩
              · exact sub _ (List.mem_map_of_mem hp)
              · rw [List.mem_singleton] at hm'
                subst hm'
                exact hC.1 s hsC m hr
            · obtain ⟨R, eR⟩ := expA_grow e
              rw [eR, List.map_append, List.getElem?_append_left (List.getElem?_eq_some_iff.1 at2).1]
              exact at2) ⟨⟨⟨iv, iv.nd, hsub⟩, hat⟩, x3, x4, x5, x6, rfl, rfl⟩ (by
            rw [flat_one, List.length_map, prs_len]
            have := iv.len
            omega)
          rw [flat_one, List.map_id'] at fe
          exact fe
        · rintro Q2 ρ cs e ⟨⟨⟨_, nd, sub⟩, at2⟩, y3, y4, y5, y6, e1, e2⟩
          subst e1 e2
          refine ⟨[.cel 0, .cel 5, .d (.int ((i : Nat) + 1)), y3, y4, y5, y6], cS K w k1 k2 u st nm P Q2, ?_, ⟨iv.step (f := stp0 (lyn k1) (lyn k2)) g1 g2 hq (fun m hm => (ha _ (prs_mem hm)).1) (by rw [prs_len]; omega) (fun _ _ => rfl) e, sub⟩, y3, y4, y5, y6, by rw [Int.natCast_add]; rfl, rfl⟩
          walk_at "s1") 5000 0 [(List.replicate ((lyn k1).length + (lyn k2).length) 0, [])] [.cel 0, .cel 5, .d (.int 0), .no, .no, .no, .no] (cS K w k1 k2 u st nm P [(List.replicate ((lyn k1).length + (lyn k2).length) 0, [])]) _ hz (Nat.le_refl _) ⟨⟨InvQ.start g1 g2 12, fun q hq => by
            rw [List.map_cons, List.map_nil, List.mem_singleton] at hq
            rw [hq]
            exact hC.2.1⟩, _, _, _, _, rfl, rfl⟩
  obtain ⟨i', ρ2, cs2, node, _, x3, x4, x5, x6, e1, e2⟩ := node
  subst e1 e2
  have hk : tkD (tupI (List.replicate ((lyn k1).length + (lyn k2).length) 0)) = some (kI (List.replicate ((lyn k1).length + (lyn k2).length) 0)) := tkD_ints _
  rw [est] at hk
  have eS : cS K w k1 k2 u st nm P [(List.replicate ((lyn k1).length + (lyn k2).length) 0, [])] = [.ins (TwC K) (tw5 (twT k1 k2 u) st), nm, twL k1 k2, .lst P, .lst [st], .dV w [(kI (List.replicate ((lyn k1).length + (lyn k2).length) 0), .bool true)]] := by
    unfold cS
    rw [List.map_cons, List.map_nil, List.map_cons, List.map_nil, List.map_cons, List.map_nil, est]
    rfl
  rw [eS] at node
  have nd2 : (sWhile (fun _ _ => 5000) (op2 ltD (eV 2) (eCd lenG (aCons (eFld (He.ga K "Towers") "standings" (eV 0)) aNil))) (gSeq (sForC (gtT (gtsCons (gtN 3) (gtsCons (gtN 4) (gtsCons (gtN 5) gtsNil)))) (iCel (eFld (He.ga K "Towers") "pairs" (eV 0))) (gSeq (sSet 6 (eBin ixD (eFrz (eMethW (He.ga K "Towers") "after" (F_Towers_after K w) (eV 0) (aCons (eBin ixD (eFld (He.ga K "Towers") "standings" (eV 0)) (eV 2)) (aCons (eV 4) (aCons (eV 5) aNil))))) (eC (.int (0)))))
        (sIf (cInV w true (eV 6) (eV 1)) (gSeq (sIf (op2 eqD (eCd lenG (aCons (eFld (He.ga K "Towers") "standings" (eV 0)) aNil)) (eC (.int (4000)))) (sErr "TooLarge") gNil)
          (gSeq (sSubV w (eV 1) (eV 6) (eC (.bool true)))
          (sExp (eMt appG (eFld (He.ga K "Towers") "standings" (eV 0)) (aCons (eV 6) aNil))))) gNil)))
      (sSet 2 (eBin addD (eV 2) (eC (.int (1))))))) [.cel 0, .cel 5, .d (.int 0), .no, .no, .no, .no] [.ins (TwC K) (tw5 (twT k1 k2 u) st), nm, twL k1 k2, .lst P, .lst [st], .dV w [(kI (List.replicate ((lyn k1).length + (lyn k2).length) 0), .bool true)]] = .nx [.cel 0, .cel 5, .d (.int (i' : Nat)), x3, x4, x5, x6] (cS K w k1 k2 u st nm P Q') := node
  unfold F_Towers_check_standings B_Towers_check_standings
  refine q_runWx (ρ' := [.cel 0, .cel 5, .d (.int (i' : Nat)), x3, x4, x5, x6]) (by walk_at "rep") ?_
  walk_at "st"
  with_reducible exact nd2
end
def encF (u : Int) (q : List Int × List (Int × Int)) : D := .tuple [tupI q.1, .list (q.2.map (encM u))]
section
variable (K : PySem.W.Frag) (w : PySem.World) {u : Int} {k1 k2 : List Kd} {ams : List Int}
abbrev aS8 (K : PySem.W.Frag) (w : PySem.World) (k1 k2 : List Kd) (u : Int) (st : D) (nm : OC) (P : List D) (o4 o5 : OC) (Q : List (List Int × List (Int × Int))) : Store := [.ins (TwC K) (tw5 (twT k1 k2 u) st), nm, twL k1 k2, .lst P, o4, o5, .lst (Q.map (encF u)), .dV w ((Q.map Prod.fst).map kT)]
theorem ap_step (hu : GU u) (h1 : GT k1) (h2 : GT k2) {s : List Int} (hs : St2 (lyn k1) (lyn k2) s) {Q : List (List Int × List (Int × Int))} (hQ : Q.length < 900000) {r : Int × Int} {run : List (Int × Int)} (hr : run.length < 900000) (st : D) (nm : OC) (P : List D) (o4 o5 : OC) (s3 x9 x10 x11 : S) :
    EX (stp2 (lyn k1) (lyn k2)) s run [r] Q (fun Q' ρ cs => ∃ x6 x7 x8 x9 x10 x11, ρ = [.cel 0, .cel 6, .cel 7, s3, .d (.tuple (s.map .int)), .d (.list (run.map (encM u))), x6, x7, x8, x9, x10, x11] ∧ cs = aS8 K w k1 k2 u st nm P o4 o5 Q') (fun r => .d (.list (r.map (encM u))))
      (((gSeq (sTgt (gtT (gtsCons (gtN 9) (gtsCons (gtN 10) (gtsCons (gtN 11) gtsNil)))) (eFrz (eMethW (He.ga K "Towers") "after" (F_Towers_after K w) (eV 0) (aCons (eV 4) (aCons (eV 7) (aCons (eV 8) aNil))))))
        (gSeq (sIf (op2 neD (eV 10) (eV 11)) (sRet (eRv (eBin addD (eV 5) (eFrz (eLst (aCons (eV 6) aNil)))))) gNil)
        (sIf (cInV w true (eV 9) (eV 2)) (gSeq (sSubV w (eV 2) (eV 9) (eC (.bool true)))
          (sExp (eMt appG (eV 1) (aCons (eTup (aCons (eV 9) (aCons (eBin addD (eV 5) (eFrz (eLst (aCons (eV 6) aNil)))) aNil))) aNil)))) gNil)))) [.cel 0, .cel 6, .cel 7, s3, .d (.tuple (s.map .int)), .d (.list (run.map (encM u))), .d (encM u r), .d (.int r.1), .d (.int r.2), x9, x10, x11] (aS8 K w k1 k2 u st nm P o4 o5 Q)) := by
  have ca := after_ K w (u := u) h1 h2 hs r.1 r.2 st nm [.lst P, o4, o5, .lst (Q.map (encF u)), .dV w ((Q.map Prod.fst).map kT)]
  have e2 : stp2 (lyn k1) (lyn k2) s (r.1, r.2) = stp2 (lyn k1) (lyn k2) s r := rfl
  have e3 : (stp2 (lyn k1) (lyn k2) s r).2 = decide ((tkP (lyn k1) (s.take k1.length) r.1 r.2).2 ≠ (tkP (lyn k2) (s.drop k1.length) r.1 r.2).2) := by
    unfold stp2
    rw [lyn_len]
  rw [e2] at ca
  simp only [aS8, twL] at *
  generalize (tkP (lyn k1) (s.take k1.length) r.1 r.2).2 = a at *
  generalize (tkP (lyn k2) (s.drop k1.length) r.1 r.2).2 = b at *
  have el : (run.map (encM u) ++ [encM u r]) = (run ++ [r]).map (encM u) := by rw [List.map_append]; rfl
  refine EX_one (fun hp => ?_) (fun hp hm => ?_) (fun hp hm => ?_)
  · rw [e3] at hp
    have ne : a ≠ b := of_decide_eq_true hp
    refine ⟨[.ins (TwC K) (tw5 (twT k1 k2 u) st), nm, .lst [.list ((lyn k1).map encLy), .list ((lyn k2).map encLy)], .lst P, o4, o5, .lst (Q.map (encF u)), .dV w ((Q.map Prod.fst).map kT)], q_finr (r := .d (.list (run.map (encM u) ++ [encM u r]))) (cs' := [.ins (TwC K) (tw5 (twT k1 k2 u) st), nm, .lst [.list ((lyn k1).map encLy), .list ((lyn k2).map encLy)], .lst P, o4, o5, .lst (Q.map (encF u)), .dV w ((Q.map Prod.fst).map kT)]) ?_ (by rw [el]) rfl⟩
    walk_at "st"
    walk_at "s1"
  · rw [e3] at hp
    have e : a = b := Decidable.of_not_not (of_decide_eq_false hp)
    clear hp e3
    subst e
    generalize (stp2 (lyn k1) (lyn k2) s r).1 = s' at *
    have hk := has_kT hm
    apply Exists.intro
    apply Exists.intro
    apply And.intro
    · walk_at "st"
      walk_at "s1"
    · exact ⟨_, _, _, _, _, _, rfl, rfl⟩
  · rw [e3] at hp
    have e : a = b := Decidable.of_not_not (of_decide_eq_false hp)
    clear hp e3
    subst e
    generalize (stp2 (lyn k1) (lyn k2) s r).1 = s' at *
    have hk := no_kT hm
    have hp := put_kT hm
    apply Exists.intro
    apply Exists.intro
    apply And.intro
    · walk_at "st"
      walk_at "s1"
    · refine ⟨_, _, _, _, _, _, rfl, ?_⟩
      rw [List.map_append (f := Prod.fst), List.map_append (f := encF u), List.map_cons, List.map_nil]
      unfold encF
      dsimp only
      rw [← el]
      rfl
theorem ap_ (hu : GU u) (h1 : GT k1) (h2 : GT k2) (ha : ∀ m ∈ ams, 0 ≤ m ∧ m ≤ 100) (hl : ams.length ≤ 6) {z : Sum (List (Int × Int)) (List (List Int × List (Int × Int)))} (hz : bfsA (stp2 (lyn k1) (lyn k2)) (prs ams) 5000 0 [(List.replicate ((lyn k1).length + (lyn k2).length) 0, [])] = some z) (nm o4 o5 : OC) :
    match z with
    | .inl r => ∃ cs2, F_Towers_apart K w [.cel 0] (.ins (TwC K) (tw5 (twT k1 k2 u) (tupI (List.replicate ((lyn k1).length + (lyn k2).length) 0))) :: nm :: twL k1 k2 :: .lst ((prs ams).map (encP u)) :: o4 :: o5 :: []) = .ok (.d (.list (r.map (encM u)))) cs2
    | .inr _ => ∃ cs2, F_Towers_apart K w [.cel 0] (.ins (TwC K) (tw5 (twT k1 k2 u) (tupI (List.replicate ((lyn k1).length + (lyn k2).length) 0))) :: nm :: twL k1 k2 :: .lst ((prs ams).map (encP u)) :: o4 :: o5 :: []) = .ok (.d .none) (.ins (TwC K) (tw5 (twT k1 k2 u) (tupI (List.replicate ((lyn k1).length + (lyn k2).length) 0))) :: nm :: twL k1 k2 :: .lst ((prs ams).map (encP u)) :: o4 :: o5 :: cs2) := by
  have g1 := lyn_g h1.1
  have g2 := lyn_g h2.1
  generalize est : tupI (List.replicate ((lyn k1).length + (lyn k2).length) 0) = st
  generalize eP : (prs ams).map (encP u) = P
  have node := wh_bfs (f := stp2 (lyn k1) (lyn k2)) (ms := prs ams) (t := (op2 ltD (eV 3) (eCd lenG (aCons (eV 1) aNil)))) (body := (gSeq (sTgt (gtT (gtsCons (gtN 4) (gtsCons (gtN 5) gtsNil))) (eBin ixD (eV 1) (eV 3)))
      (gSeq (sForC (gtT (gtsCons (gtN 6) (gtsCons (gtN 7) (gtsCons (gtN 8) gtsNil)))) (iCel (eFld (He.ga K "Towers") "pairs" (eV 0))) (gSeq (sTgt (gtT (gtsCons (gtN 9) (gtsCons (gtN 10) (gtsCons (gtN 11) gtsNil)))) (eFrz (eMethW (He.ga K "Towers") "after" (F_Towers_after K w) (eV 0) (aCons (eV 4) (aCons (eV 7) (aCons (eV 8) aNil))))))
        (gSeq (sIf (op2 neD (eV 10) (eV 11)) (sRet (eRv (eBin addD (eV 5) (eFrz (eLst (aCons (eV 6) aNil)))))) gNil)
        (sIf (cInV w true (eV 9) (eV 2)) (gSeq (sSubV w (eV 2) (eV 9) (eC (.bool true)))
          (sExp (eMt appG (eV 1) (aCons (eTup (aCons (eV 9) (aCons (eBin addD (eV 5) (eFrz (eLst (aCons (eV 6) aNil)))) aNil))) aNil)))) gNil))))
      (sSet 3 (eBin addD (eV 3) (eC (.int (1)))))))) (fun i Q ρ cs => InvQ (lyn k1) (lyn k2) 12 i Q ∧ ∃ x4 x5 x6 x7 x8 x9 x10 x11, ρ = [.cel 0, .cel 6, .cel 7, .d (.int (i : Nat)), x4, x5, x6, x7, x8, x9, x10, x11] ∧ cs = aS8 K w k1 k2 u st nm P o4 o5 Q) (fun r => .d (.list (r.map (encM u)))) 5000 (fun i Q ρ cs hi ⟨iv, x4, x5, x6, x7, x8, x9, x10, x11, e1, e2⟩ => by
    subst e1 e2
    refine ⟨fun hn => ?_, fun s run hq => ?_⟩
    · have : Q.length ≤ i := List.getElem?_eq_none_iff.1 hn
      refine q_cast (z := decide (((i : Nat) : Int) < (((Q.map (encF u)).length : Nat) : Int))) ?_ (decide_eq_false (by rw [List.length_map]; omega))
      simp only [aS8]
      walk_at "ev"
    · have hli := (List.getElem?_eq_some_iff.1 hq).1
      have hm := List.mem_of_getElem? hq
      have hat : atI (Q.map (encF u)) (i : Nat) = some (.tuple [.tuple (s.map .int), .list (run.map (encM u))]) := at_nat (by rw [List.getElem?_map, hq]; rfl)
      refine ⟨?_, ?_⟩
      · refine q_cast (z := decide (((i : Nat) : Int) < (((Q.map (encF u)).length : Nat) : Int))) ?_ (decide_eq_true (by rw [List.length_map]; omega))
        simp only [aS8]
        walk_at "ev"
      · have b1 : (sTgt (gtT (gtsCons (gtN 4) (gtsCons (gtN 5) gtsNil))) (eBin ixD (eV 1) (eV 3))) [.cel 0, .cel 6, .cel 7, .d (.int (i : Nat)), x4, x5, x6, x7, x8, x9, x10, x11] (aS8 K w k1 k2 u st nm P o4 o5 Q) = .nx [.cel 0, .cel 6, .cel 7, .d (.int (i : Nat)), .d (.tuple (s.map .int)), .d (.list (run.map (encM u))), x6, x7, x8, x9, x10, x11] (aS8 K w k1 k2 u st nm P o4 o5 Q) := by
          simp only [aS8]
          walk_at "s1"
        have eo : ∀ h : G, gSeq ((sTgt (gtT (gtsCons (gtN 4) (gtsCons (gtN 5) gtsNil))) (eBin ixD (eV 1) (eV 3)))) h [.cel 0, .cel 6, .cel 7, .d (.int (i : Nat)), x4, x5, x6, x7, x8, x9, x10, x11] (aS8 K w k1 k2 u st nm P o4 o5 Q) = h [.cel 0, .cel 6, .cel 7, .d (.int (i : Nat)), .d (.tuple (s.map .int)), .d (.list (run.map (encM u))), x6, x7, x8, x9, x10, x11] (aS8 K w k1 k2 u st nm P o4 o5 Q) := fun h => seq_nx b1 rfl
        rw [eo]
        refine EX_seq (R := fun Q' ρ cs => ∃ x6 x7 x8 x9 x10 x11, ρ = [.cel 0, .cel 6, .cel 7, .d (.int (i : Nat)), .d (.tuple (s.map .int)), .d (.list (run.map (encM u))), x6, x7, x8, x9, x10, x11] ∧ cs = aS8 K w k1 k2 u st nm P o4 o5 Q') ?_ ?_
        · have fc : sForC ((gtT (gtsCons (gtN 6) (gtsCons (gtN 7) (gtsCons (gtN 8) gtsNil))))) (iCel (eFld (He.ga K "Towers") "pairs" (eV 0))) ((gSeq (sTgt (gtT (gtsCons (gtN 9) (gtsCons (gtN 10) (gtsCons (gtN 11) gtsNil)))) (eFrz (eMethW (He.ga K "Towers") "after" (F_Towers_after K w) (eV 0) (aCons (eV 4) (aCons (eV 7) (aCons (eV 8) aNil))))))
        (gSeq (sIf (op2 neD (eV 10) (eV 11)) (sRet (eRv (eBin addD (eV 5) (eFrz (eLst (aCons (eV 6) aNil)))))) gNil)
        (sIf (cInV w true (eV 9) (eV 2)) (gSeq (sSubV w (eV 2) (eV 9) (eC (.bool true)))
          (sExp (eMt appG (eV 1) (aCons (eTup (aCons (eV 9) (aCons (eBin addD (eV 5) (eFrz (eLst (aCons (eV 6) aNil)))) aNil))) aNil)))) gNil)))) [.cel 0, .cel 6, .cel 7, .d (.int (i : Nat)), .d (.tuple (s.map .int)), .d (.list (run.map (encM u))), x6, x7, x8, x9, x10, x11] (aS8 K w k1 k2 u st nm P o4 o5 Q) = gForC 3 P ((gtT (gtsCons (gtN 6) (gtsCons (gtN 7) (gtsCons (gtN 8) gtsNil))))) ((gSeq (sTgt (gtT (gtsCons (gtN 9) (gtsCons (gtN 10) (gtsCons (gtN 11) gtsNil)))) (eFrz (eMethW (He.ga K "Towers") "after" (F_Towers_after K w) (eV 0) (aCons (eV 4) (aCons (eV 7) (aCons (eV 8) aNil))))))
        (gSeq (sIf (op2 neD (eV 10) (eV 11)) (sRet (eRv (eBin addD (eV 5) (eFrz (eLst (aCons (eV 6) aNil)))))) gNil)
        (sIf (cInV w true (eV 9) (eV 2)) (gSeq (sSubV w (eV 2) (eV 9) (eC (.bool true)))
          (sExp (eMt appG (eV 1) (aCons (eTup (aCons (eV 9) (aCons (eBin addD (eV 5) (eFrz (eLst (aCons (eV 6) aNil)))) aNil))) aNil)))) gNil)))) P [.cel 0, .cel 6, .cel 7, .d (.int (i : Nat)), .d (.tuple (s.map .int)), .d (.list (run.map (encM u))), x6, x7, x8, x9, x10, x11] (aS8 K w k1 k2 u st nm P o4 o5 Q) := by
            refine forC_eq (iCel_of ?_ rfl)
            simp only [aS8]
            walk_at "ev"
          rw [fc]
          subst eP
          have fe := for_expC (f := stp2 (lyn k1) (lyn k2)) (s := s) (run := run) (tg := (gtT (gtsCons (gtN 6) (gtsCons (gtN 7) (gtsCons (gtN 8) gtsNil))))) (body := (gSeq (sTgt (gtT (gtsCons (gtN 9) (gtsCons (gtN 10) (gtsCons (gtN 11) gtsNil)))) (eFrz (eMethW (He.ga K "Towers") "after" (F_Towers_after K w) (eV 0) (aCons (eV 4) (aCons (eV 7) (aCons (eV 8) aNil))))))
        (gSeq (sIf (op2 neD (eV 10) (eV 11)) (sRet (eRv (eBin addD (eV 5) (eFrz (eLst (aCons (eV 6) aNil)))))) gNil)
        (sIf (cInV w true (eV 9) (eV 2)) (gSeq (sSubV w (eV 2) (eV 9) (eC (.bool true)))
          (sExp (eMt appG (eV 1) (aCons (eTup (aCons (eV 9) (aCons (eBin addD (eV 5) (eFrz (eLst (aCons (eV 6) aNil)))) aNil))) aNil)))) gNil)))) (j := 3) (ys := (prs ams).map (encP u)) (encP u) (fun r => [r]) (fun Q' ρ cs => ∃ x6 x7 x8 x9 x10 x11, ρ = [.cel 0, .cel 6, .cel 7, .d (.int (i : Nat)), .d (.tuple (s.map .int)), .d (.list (run.map (encM u))), x6, x7, x8, x9, x10, x11] ∧ cs = aS8 K w k1 k2 u st nm ((prs ams).map (encP u)) o4 o5 Q') (fun r => .d (.list (r.map (encM u)))) 100000 (fun Q ρ cs ⟨x6, x7, x8, x9, x10, x11, _, e2⟩ => by subst e2; rfl) (prs ams) Q [.cel 0, .cel 6, .cel 7, .d (.int (i : Nat)), .d (.tuple (s.map .int)), .d (.list (run.map (encM u))), x6, x7, x8, x9, x10, x11] (aS8 K w k1 k2 u st nm ((prs ams).map (encP u)) o4 o5 Q) (fun r hr Q2 ρ cs ⟨y6, y7, y8, y9, y10, y11, e1, e2⟩ hl2 => by
            subst e1 e2
            exact ⟨_, rfl, ap_step K w hu h1 h2 (iv.st _ hm) (by omega) (show run.length < 900000 by have : run.length ≤ i := iv.rl _ hm; omega) st nm _ o4 o5 _ y9 y10 y11⟩) ⟨x6, x7, x8, x9, x10, x11, rfl, rfl⟩ (by
            rw [flat_one, List.length_map, prs_len]
            have := iv.len
            omega)
          rw [flat_one, List.map_id'] at fe
          exact fe
        · rintro Q2 ρ cs e ⟨y6, y7, y8, y9, y10, y11, e1, e2⟩
          subst e1 e2
          refine ⟨[.cel 0, .cel 6, .cel 7, .d (.int ((i : Nat) + 1)), .d (.tuple (s.map .int)), .d (.list (run.map (encM u))), y6, y7, y8, y9, y10, y11], aS8 K w k1 k2 u st nm P o4 o5 Q2, ?_, iv.step (f := stp2 (lyn k1) (lyn k2)) g1 g2 hq (fun m hm => (ha _ (prs_mem hm)).1) (by rw [prs_len]; omega) (fun _ _ => rfl) e, _, _, y6, y7, y8, y9, y10, y11, by rw [Int.natCast_add]; rfl, rfl⟩
          walk_at "s1") 5000 0 [(List.replicate ((lyn k1).length + (lyn k2).length) 0, [])] [.cel 0, .cel 6, .cel 7, .d (.int 0), .no, .no, .no, .no, .no, .no, .no, .no] (aS8 K w k1 k2 u st nm P o4 o5 [(List.replicate ((lyn k1).length + (lyn k2).length) 0, [])]) _ hz (Nat.le_refl _) ⟨InvQ.start g1 g2 12, _, _, _, _, _, _, _, _, rfl, rfl⟩
  have hk : tkD (tupI (List.replicate ((lyn k1).length + (lyn k2).length) 0)) = some (kI (List.replicate ((lyn k1).length + (lyn k2).length) 0)) := tkD_ints _
  rw [est] at hk
  have eS : aS8 K w k1 k2 u st nm P o4 o5 [(List.replicate ((lyn k1).length + (lyn k2).length) 0, [])] = [.ins (TwC K) (tw5 (twT k1 k2 u) st), nm, twL k1 k2, .lst P, o4, o5, .lst [.tuple [st, .list []]], .dV w [(kI (List.replicate ((lyn k1).length + (lyn k2).length) 0), .bool true)]] := by
    unfold aS8
    rw [List.map_cons, List.map_nil, List.map_cons, List.map_nil, List.map_cons, List.map_nil]
    unfold encF
    dsimp only
    rw [est]
    rfl
  rw [eS] at node
  unfold F_Towers_apart B_Towers_apart
  cases z with
  | inl r =>
    obtain ⟨cs2, node⟩ := node
    have nd2 : (sWhile (fun _ _ => 5000) (op2 ltD (eV 3) (eCd lenG (aCons (eV 1) aNil))) (gSeq (sTgt (gtT (gtsCons (gtN 4) (gtsCons (gtN 5) gtsNil))) (eBin ixD (eV 1) (eV 3)))
      (gSeq (sForC (gtT (gtsCons (gtN 6) (gtsCons (gtN 7) (gtsCons (gtN 8) gtsNil)))) (iCel (eFld (He.ga K "Towers") "pairs" (eV 0))) (gSeq (sTgt (gtT (gtsCons (gtN 9) (gtsCons (gtN 10) (gtsCons (gtN 11) gtsNil)))) (eFrz (eMethW (He.ga K "Towers") "after" (F_Towers_after K w) (eV 0) (aCons (eV 4) (aCons (eV 7) (aCons (eV 8) aNil))))))
        (gSeq (sIf (op2 neD (eV 10) (eV 11)) (sRet (eRv (eBin addD (eV 5) (eFrz (eLst (aCons (eV 6) aNil)))))) gNil)
        (sIf (cInV w true (eV 9) (eV 2)) (gSeq (sSubV w (eV 2) (eV 9) (eC (.bool true)))
          (sExp (eMt appG (eV 1) (aCons (eTup (aCons (eV 9) (aCons (eBin addD (eV 5) (eFrz (eLst (aCons (eV 6) aNil)))) aNil))) aNil)))) gNil))))
      (sSet 3 (eBin addD (eV 3) (eC (.int (1)))))))) [.cel 0, .cel 6, .cel 7, .d (.int 0), .no, .no, .no, .no, .no, .no, .no, .no] [.ins (TwC K) (tw5 (twT k1 k2 u) st), nm, twL k1 k2, .lst P, o4, o5, .lst [.tuple [st, .list []]], .dV w [(kI (List.replicate ((lyn k1).length + (lyn k2).length) 0), .bool true)]] = .rt (.d (.list (r.map (encM u)))) cs2 := node
    refine ⟨cs2, ?_⟩
    refine q_runW (by walk_at "rep") ?_
    walk_at "st"
    exact seq_rt nd2
  | inr Q' =>
    obtain ⟨i', ρ2, cs2, node, iv, x4, x5, x6, x7, x8, x9, x10, x11, e1, e2⟩ := node
    subst e1 e2
    have nd2 : (sWhile (fun _ _ => 5000) (op2 ltD (eV 3) (eCd lenG (aCons (eV 1) aNil))) (gSeq (sTgt (gtT (gtsCons (gtN 4) (gtsCons (gtN 5) gtsNil))) (eBin ixD (eV 1) (eV 3)))
      (gSeq (sForC (gtT (gtsCons (gtN 6) (gtsCons (gtN 7) (gtsCons (gtN 8) gtsNil)))) (iCel (eFld (He.ga K "Towers") "pairs" (eV 0))) (gSeq (sTgt (gtT (gtsCons (gtN 9) (gtsCons (gtN 10) (gtsCons (gtN 11) gtsNil)))) (eFrz (eMethW (He.ga K "Towers") "after" (F_Towers_after K w) (eV 0) (aCons (eV 4) (aCons (eV 7) (aCons (eV 8) aNil))))))
        (gSeq (sIf (op2 neD (eV 10) (eV 11)) (sRet (eRv (eBin addD (eV 5) (eFrz (eLst (aCons (eV 6) aNil)))))) gNil)
        (sIf (cInV w true (eV 9) (eV 2)) (gSeq (sSubV w (eV 2) (eV 9) (eC (.bool true)))
          (sExp (eMt appG (eV 1) (aCons (eTup (aCons (eV 9) (aCons (eBin addD (eV 5) (eFrz (eLst (aCons (eV 6) aNil)))) aNil))) aNil)))) gNil))))
      (sSet 3 (eBin addD (eV 3) (eC (.int (1)))))))) [.cel 0, .cel 6, .cel 7, .d (.int 0), .no, .no, .no, .no, .no, .no, .no, .no] [.ins (TwC K) (tw5 (twT k1 k2 u) st), nm, twL k1 k2, .lst P, o4, o5, .lst [.tuple [st, .list []]], .dV w [(kI (List.replicate ((lyn k1).length + (lyn k2).length) 0), .bool true)]] = .nx [.cel 0, .cel 6, .cel 7, .d (.int (i' : Nat)), x4, x5, x6, x7, x8, x9, x10, x11] (aS8 K w k1 k2 u st nm P o4 o5 Q') := node
    refine ⟨[.lst (Q'.map (encF u)), .dV w ((Q'.map Prod.fst).map kT)], ?_⟩
    refine q_runW (by walk_at "rep") ?_
    walk_at "st"
    rfl
end
theorem sh_ints (xs : List Int) : SeqAt.shaped (.list (xs.map .int)) = true := by
  have a : PyData.canLayAll0 (xs.map .int) = true ∧ PyData.depthAll (xs.map .int) = 0 := by
    induction xs with
    | nil => simp [PyData.canLayAll0, PyData.depthAll]
    | cons c l ih => simp [PyData.canLayAll0, PyData.depthAll, ih, PyData.canLay0, PyData.depth]
  simp [SeqAt.shaped, PyData.canLay0, PyData.depth, a]
theorem eq_same {d : D} (h : SeqAt.shaped d = true) : eqD d d = some true := by
  rw [eqD_sh h h, PySem.SeqAt.eqv_refl]
  simp [SeqAt.shaped] at h
  exact h.1
theorem rise_uniq {l m : List Int} (hl : l.Pairwise (· < ·)) (hm : m.Pairwise (· < ·)) (h : ∀ y, y ∈ l ↔ y ∈ m) : l = m := by
  have nl : l.Nodup := hl.imp fun {a b} h e => by omega
  have nm : m.Nodup := hm.imp fun {a b} h e => by omega
  exact uniq_by id ((List.perm_ext_iff_of_nodup nl nm).2 h) hl hm
theorem kysD_int : ∀ xs : List Int, kysD (xs.map .int) = some (xs.map Sum.inl)
  | [] => rfl
  | x :: xs => by
    show (match kyD (.int x), kysD (xs.map .int) with
      | some k, some ks => some (k :: ks)
      | _, _ => none) = _
    rw [kysD_int xs]; rfl
theorem fm_int : ∀ (xs l : List Int), l.Nodup → ∃ us : List Int, (xs.map Sum.inl).foldl dd1 (l.map Sum.inl) = us.map Sum.inl ∧ us.Nodup ∧ (∀ y, y ∈ us ↔ y ∈ l ∨ y ∈ xs) ∧ us.length ≤ l.length + xs.length
  | [], l, h => ⟨l, rfl, h, by simp, Nat.le_refl _⟩
  | x :: xs, l, h => by
    have hm : mK (l.map Sum.inl) (Sum.inl x) = true ↔ x ∈ l := by rw [mK_iff]; simp
    by_cases c : x ∈ l
    · obtain ⟨us, e, n, m, q⟩ := fm_int xs l h
      refine ⟨us, ?_, n, fun y => ?_, by rw [List.length_cons]; omega⟩
      · rw [List.map_cons, List.foldl_cons]
        unfold dd1
        rw [if_pos (hm.2 c)]
        exact e
      · rw [m, List.mem_cons]
        exact ⟨fun z => z.elim .inl fun q => .inr (.inr q), fun z => z.elim .inl fun q => q.elim (fun e => .inl (e ▸ c)) .inr⟩
    · obtain ⟨us, e, n, m, q⟩ := fm_int xs (l ++ [x]) ((List.perm_append_singleton x l).nodup_iff.2 (List.nodup_cons.2 ⟨c, h⟩))
      refine ⟨us, ?_, n, fun y => ?_, by rw [List.length_append, List.length_singleton] at q; rw [List.length_cons]; omega⟩
      · rw [List.map_cons, List.foldl_cons]
        have e1 : dd1 (l.map Sum.inl) (Sum.inl x) = (l ++ [x]).map Sum.inl := by
          unfold dd1
          rw [if_neg fun z => c (hm.1 z)]; simp
        rw [e1]; exact e
      · rw [m, List.mem_append, List.mem_singleton, List.mem_cons, or_assoc]
theorem sortKI_map : ∀ ys : List Int, sortKI (ys.map Sum.inl) = some ys
  | [] => rfl
  | y :: ys => by
    show (sortKI (ys.map Sum.inl)).map (y :: ·) = _
    rw [sortKI_map ys]; rfl
theorem srt_int {ns : List Int} (h : ns.length < 4000) : ∃ zs : List Int, srtSD (ns.map .int) = some (.list (zs.map .int)) ∧ zs.Pairwise (· < ·) ∧ (∀ y, y ∈ zs ↔ y ∈ ns) ∧ zs.length ≤ ns.length := by
  obtain ⟨us, e, n, m, q⟩ := fm_int ns [] List.nodup_nil
  have pm := PySem.W.sortI_perm us
  refine ⟨PySem.W.sortI us, ?_, ?_, fun y => ?_, ?_⟩
  · have hl : (ns.map (Sum.inl : Int → Key)).length < 4000 := by simpa using h
    have e' : fmK (ns.map Sum.inl) = us.map Sum.inl := e
    unfold srtSD
    rw [kysD_int]
    simp only [if_pos hl]
    rw [e']
    unfold sortK
    rw [sortKI_map]; rfl
  · have r := PySem.W.sortI_rises us
    have nd : (PySem.W.sortI us).Nodup := pm.nodup_iff.2 n
    refine (List.pairwise_and_iff.2 ⟨r, nd⟩).imp fun {a b} h => ?_
    have := h.2
    omega
  · rw [pm.mem_iff, m]; simp
  · rw [pm.length_eq]; simpa using q
/-- data of numbers, names and rows of these, n deep -/
def Sm : Nat → D → Prop
  | _, .int _ => True
  | _, .str _ => True
  | _, .none => True
  | n + 1, .list xs => xs.length ≤ 1000000 ∧ ∀ x ∈ xs, Sm n x
  | n + 1, .tuple xs => xs.length ≤ 1000000 ∧ ∀ x ∈ xs, Sm n x
  | _, _ => False
theorem sm_int {n : Nat} {i : Int} : Sm n (.int i) := by cases n <;> exact True.intro
theorem sm_ints {n : Nat} {xs : List Int} (h : xs.length ≤ 1000000) : Sm (n + 1) (.tuple (xs.map .int)) ∧ Sm (n + 1) (.list (xs.map .int)) := by
  have : ∀ x ∈ xs.map PyData.int, Sm n x := fun x hx => by
    obtain ⟨i, _, rfl⟩ := List.mem_map.1 hx
    exact sm_int
  exact ⟨⟨by rwa [List.length_map], this⟩, ⟨by rwa [List.length_map], this⟩⟩
theorem equal_sm : ∀ (n f : Nat) (d : D), Sm n d → 2 * n + 1 ≤ f → F__law_equal f [.d d, .d d] [] = .ok (.d (.bool true)) [] := by
  intro n
  induction n with
  | zero =>
    intro f d h hf
    obtain ⟨m, rfl⟩ : ∃ m, f = m + 1 := ⟨f - 1, by omega⟩
    cases d with
    | list xs => exact h.elim
    | tuple xs => exact h.elim
    | dict xs => exact h.elim
    | bool b => exact h.elim
    | _ => simp [F__law_equal, B__law_equal, isaD]
  | succ n ih =>
    intro f d h hf
    obtain ⟨m, rfl⟩ : ∃ m, f = m + 2 := ⟨f - 2, by omega⟩
    cases d with
    | list xs =>
      obtain ⟨h1, h2⟩ := (show xs.length ≤ 1000000 ∧ ∀ x ∈ xs, Sm n x from h)
      have e := all_same xs (.list xs) (.inl rfl) (by omega) fun x hx => ih m x (h2 x hx) (by omega)
      have k := eCall_d (F := F__law_all_equal (m + 1)) (ga := aCons (eV 0) (aCons (eV 1) aNil)) (ρ := [.d (.list xs), .d (.list xs)]) (cs := []) (cs' := []) rfl rfl e
      unfold F__law_equal
      exact run_of (seq_rt (if_yes (cs' := []) (by simp) (seq_nx (if_no (cs' := []) (by simp) rfl) (sRet_of k)))) rfl
    | tuple xs =>
      obtain ⟨h1, h2⟩ := (show xs.length ≤ 1000000 ∧ ∀ x ∈ xs, Sm n x from h)
      have e := all_same xs (.tuple xs) (.inr rfl) (by omega) fun x hx => ih m x (h2 x hx) (by omega)
      have k := eCall_d (F := F__law_all_equal (m + 1)) (ga := aCons (eV 0) (aCons (eV 1) aNil)) (ρ := [.d (.tuple xs), .d (.tuple xs)]) (cs := []) (cs' := []) rfl rfl e
      unfold F__law_equal
      exact run_of (seq_nx (if_no (cs' := []) (by simp) rfl) (seq_rt (if_yes (cs' := []) (by simp) (seq_nx (if_no (cs' := []) (by simp) rfl) (sRet_of k))))) rfl
    | dict xs => exact h.elim
    | bool b => exact h.elim
    | _ => simp [F__law_equal, B__law_equal, isaD]
theorem q_ownL {fe : List S → M S} {ρ : List S} {cs cs1 : Store} {v : S} {d : D} {xs : List D} (h : fe ρ cs = .ok v cs1) (hv : vw v cs1 = some d) (hl : listO d = some xs) : eOwnL fe ρ cs = .ok (.own (.lst xs)) cs1 := by
  rw [eOwnL_, bnd_ok h, bnd_ok (w_m hv)]
  rw [hl]; rfl
theorem lcC_none {α : Type} {tg : D → List S → Option (List S)} {t : List S → M Bool} {fe : List S → M S} {ρ : List S} {cs : Store} {j : Nat} {ys : List D} (hj : cs[j]? = some (.lst ys)) (e : α → D) (acc : List D) : ∀ (xs : List α), (∀ x ∈ xs, ∃ ρ', tg (e x) ρ = some ρ' ∧ t ρ' cs = .ok false cs) → lcLC j ys tg t fe ρ (xs.map e) acc cs = .ok (.own (.lst acc)) cs
  | [], _ => lcLC_nil hj
  | x :: xs, h => by
    obtain ⟨ρ', h1, h2⟩ := h x List.mem_cons_self
    rw [List.map_cons, lcLC_cons hj, h1]
    simp only [bnd_, noEr_, h2, Bool.false_eq_true, if_false]
    exact lcC_none hj e acc xs fun y hy => h y (List.mem_cons_of_mem _ hy)
def nmK (k : Kd) : List Int := [(ly k).A, (ly k).B, k.a]
/-- the numbers that are looked at, in units -/
def nms (k1 k2 : List Kd) (ams : List Int) : List Int := ams ++ (k1 ++ k2).flatMap nmK
theorem ix1K {u : Int} {k : Kd} (h : GK k) : ixD (encK u k) (.int 1) = some (.int (u * k.a)) := by
  rw [encK_eq h u]
  exact atI1 _ _ _
section
variable (K : PySem.W.Frag) (w : PySem.World) {u : Int} {k1 k2 : List Kd} {ams : List Int}
local macro_rules | `(tactic| walk_at "ev") => `(tactic| ((with_reducible apply q_ownL); (· walk_at "ev"); (· walk_at "vw"); (· first | with_reducible exact listO_tuple _ | with_reducible exact listO_list _)))
theorem init_head (hu : GU u) (h1 : GT k1) (h2 : GT k2) (hl : 1 ≤ ams.length ∧ ams.length ≤ 6) (ha : ∀ m ∈ ams, 1 ≤ m ∧ m ≤ 100) (hp : ams.Pairwise (· < ·)) :
    ∃ s6, (B_Towers___init__ K w) [.cel 0, .d (.tuple (k1.map (encK u))), .d (.tuple (k2.map (encK u))), .d (.int u), .d (.tuple ((ams.map (u * ·)).map .int)), .no, .no, .no, .no, .no] [.ins (TwC K) []] = ((gSeq (sIf (op2 gtD (eBin fdivD (eCd maxLG (aCons (eV 5) aNil)) (eV 3)) (eC (.int (40)))) (sErr "TooLarge") gNil)
    (gSeq (sFldS (He.ga K "Towers") "towers" (eV 0) (eRv (eTup (aCons (eV 1) (aCons (eV 2) aNil)))))
    (gSeq (sFldS (He.ga K "Towers") "layers" (eV 0) (eLst aNil))
    (gSeq (sFor (gtN 7) (iAnyM (eFld (He.ga K "Towers") "towers" (eV 0))) (sExp (eMt appG (eFld (He.ga K "Towers") "layers" (eV 0)) (aCons (eFrz (eLc (iAnyM (eV 7)) (gtN 6) tYesM (eTup (aCons (eBin fdivD (eBin ixD (eFrz (eCall F_layer_of (aCons (eV 6) aNil))) (eC (.int (0)))) (eV 3)) (aCons (eBin fdivD (eBin ixD (eFrz (eCall F_layer_of (aCons (eV 6) aNil))) (eC (.int (1)))) (eV 3)) aNil))) [6])) aNil))))
    (gSeq (sFldS (He.ga K "Towers") "pairs" (eV 0) (eLst aNil))
    (gSeq (sFor (gtN 8) (iAnyM (eV 4)) (sExp (eMt extG (eFld (He.ga K "Towers") "pairs" (eV 0)) (aCons (eFrz (eLst (aCons (eTup (aCons (eTup (aCons (eV 8) (aCons (eC (.int (1))) aNil))) (aCons (eBin fdivD (eV 8) (eV 3)) (aCons (eC (.int (1))) aNil)))) (aCons (eTup (aCons (eTup (aCons (eV 8) (aCons (eC (.int (0))) aNil))) (aCons (eBin fdivD (eV 8) (eV 3)) (aCons (eC (.int (0))) aNil)))) aNil)))) aNil))))
    (gSeq (sFldS (He.ga K "Towers") "start" (eV 0) (eRv (eBin mulE (eTup (aCons (eC (.int (0))) aNil)) (eBin addD (eCd lenG (aCons (eV 1) aNil)) (eCd lenG (aCons (eV 2) aNil))))))
    (sExp (eFrz (eMethW (He.ga K "Towers") "check_standings" (F_Towers_check_standings K w) (eV 0) nilM))))))))))) [.cel 0, .d (.tuple (k1.map (encK u))), .d (.tuple (k2.map (encK u))), .d (.int u), .d (.tuple ((ams.map (u * ·)).map .int)), .cel 1, s6, .no, .no, .no] [.ins (TwC K) [], .lst (((nms k1 k2 ams).map (u * ·)).map .int)] := by
  have hu1 := hu.1
  have hu2 := hu.2
  have m1 := h1.2
  have m2 := h2.2
  have c1 := num_yes (x := u) (a := 1) (b := 1000000000) ⟨hu1, hu2⟩
  have c2 := tup_yes (xs := (ams.map (u * ·)).map .int) (a := 1) (b := 6) (by simp; omega)
  have mb : ∀ m ∈ ams, 1 ≤ u * m ∧ u * m ≤ 1000000000 * 100 := fun m hm => by
    obtain ⟨x, y⟩ := ha m hm
    refine ⟨?_, Int.mul_le_mul hu2 y (by omega) (by omega)⟩
    have := Int.mul_le_mul hu1 x (by omega) (by omega)
    omega
  have c3 : (eLc (iAnyM (eV 4)) (gtN 8) (tOrM (tNotM (tT (eFrz (eCall F_is_money (aCons (eV 8) aNil))))) (op2 ltD (eV 8) (eC (.int (1))))) (eV 8) [8]) [.cel 0, .d (.tuple (k1.map (encK u))), .d (.tuple (k2.map (encK u))), .d (.int u), .d (.tuple ((ams.map (u * ·)).map .int)), .no, .no, .no, .no, .no] [.ins (TwC K) []] = .ok (.own (.lst [])) [.ins (TwC K) []] := by
    refine q_lc (xs := (ams.map (u * ·)).map .int) (by walk_at "ev") ?_
    have := lc_map (tg := gtN 8) (t := (tOrM (tNotM (tT (eFrz (eCall F_is_money (aCons (eV 8) aNil))))) (op2 ltD (eV 8) (eC (.int (1)))))) (fe := eV 8) (ρ := wipeS [.cel 0, .d (.tuple (k1.map (encK u))), .d (.tuple (k2.map (encK u))), .d (.int u), .d (.tuple ((ams.map (u * ·)).map .int)), .no, .no, .no, .no, .no] [8]) (cs := [.ins (TwC K) []]) PyData.int (fun _ => false) PyData.int (ams.map (u * ·)) [] (fun x hx => ⟨_, rfl, by
      obtain ⟨m, hm, rfl⟩ := List.mem_map.1 hx
      have b := mb m hm
      have i := mon_yes (x := u * m) (by omega)
      refine q_cast (z := !true || decide (u * m < 1)) ?_ (by rw [decide_eq_false (by omega)]; rfl)
      walk_at "ev", fun z => by cases z⟩) (by simp; omega)
    rw [this]; simp
  have c4 : neD (.list ((ams.map (u * ·)).map .int)) (.list ((ams.map (u * ·)).map .int)) = some false := by
    unfold neD
    rw [eq_same (sh_ints _)]; rfl
  have c5 : sortedSetG [.tuple ((ams.map (u * ·)).map .int)] = some (.list ((ams.map (u * ·)).map .int)) := by
    obtain ⟨zs, e1, e2, e3, _⟩ := srt_int (ns := ams.map (u * ·)) (by rw [List.length_map]; omega)
    have : zs = ams.map (u * ·) := rise_uniq e2 (by
      rw [List.pairwise_map]
      exact hp.imp fun {a b} h => Int.mul_lt_mul_of_pos_left h (by omega)) e3
    rw [this] at e1
    exact e1
  have eap : addD (.tuple (k1.map (encK u))) (.tuple (k2.map (encK u))) = some (.tuple ((k1 ++ k2).map (encK u))) := by
    rw [p_addt (by simp; omega), List.map_append]
  obtain ⟨ρ2, cs2, e1, s6, e2, e3⟩ := for_inv (tg := gtN 6) (g := (sExp (eMt extG (eV 5) (aCons (eBin addD (eCd listG (aCons (eFrz (eCall F_layer_of (aCons (eV 6) aNil))) aNil)) (eFrz (eLst (aCons (eBin ixD (eV 6) (eC (.int (1)))) aNil)))) aNil)))) (encK u) (fun p ρ cs => ∃ s6, ρ = [.cel 0, .d (.tuple (k1.map (encK u))), .d (.tuple (k2.map (encK u))), .d (.int u), .d (.tuple ((ams.map (u * ·)).map .int)), .cel 1, s6, .no, .no, .no] ∧ cs = [.ins (TwC K) [], .lst (((ams ++ p.flatMap nmK).map (u * ·)).map .int)]) (k1 ++ k2) [] [.cel 0, .d (.tuple (k1.map (encK u))), .d (.tuple (k2.map (encK u))), .d (.int u), .d (.tuple ((ams.map (u * ·)).map .int)), .cel 1, .no, .no, .no, .no] [.ins (TwC K) [], .lst ((ams.map (u * ·)).map .int)] ⟨.no, rfl, by simp⟩ (by
    rintro p k ρ cs ⟨q, hq⟩ ⟨s6, rfl, rfl⟩
    have hq : k1 ++ k2 = p ++ k :: q := hq
    have hk : GK k := by
      have : k ∈ k1 ++ k2 := by rw [hq]; simp
      rw [List.mem_append] at this
      exact this.elim (h1.1 k) (h2.1 k)
    have lo := layer_of_ hu hk
    have i1 := ix1K (u := u) hk
    unfold encLy sc at lo
    have pl : p.length ≤ 8 := by
      have := congrArg List.length hq
      simp at this
      omega
    have fl : ∀ p : List Kd, (p.flatMap nmK).length = 3 * p.length := fun p => by
      induction p with
      | nil => rfl
      | cons k p ih => rw [List.flatMap_cons, List.length_append, ih, List.length_cons]; show 3 + _ = _; omega
    have hll : (((ams ++ p.flatMap nmK).map (u * ·)).map PyData.int).length + [PyData.int (u * (ly k).A), .int (u * (ly k).B), .int (u * k.a)].length < 1000000 := by
      rw [List.length_map, List.length_map, List.length_append, fl]
      simp
      omega
    have e : .list ([PyData.int (u * (ly k).A), .int (u * (ly k).B)] ++ [.int (u * k.a)]) = PyData.list [.int (u * (ly k).A), .int (u * (ly k).B), .int (u * k.a)] := rfl
    have ad : addD (.list [PyData.int (u * (ly k).A), .int (u * (ly k).B)]) (.list [.int (u * k.a)]) = some (.list [.int (u * (ly k).A), .int (u * (ly k).B), .int (u * k.a)]) := p_addl (by simp)
    have st : ((sExp (eMt extG (eV 5) (aCons (eBin addD (eCd listG (aCons (eFrz (eCall F_layer_of (aCons (eV 6) aNil))) aNil)) (eFrz (eLst (aCons (eBin ixD (eV 6) (eC (.int (1)))) aNil)))) aNil)))) [.cel 0, .d (.tuple (k1.map (encK u))), .d (.tuple (k2.map (encK u))), .d (.int u), .d (.tuple ((ams.map (u * ·)).map .int)), .cel 1, .d (encK u k), .no, .no, .no] [.ins (TwC K) [], .lst (((ams ++ p.flatMap nmK).map (u * ·)).map .int)] = .nx [.cel 0, .d (.tuple (k1.map (encK u))), .d (.tuple (k2.map (encK u))), .d (.int u), .d (.tuple ((ams.map (u * ·)).map .int)), .cel 1, .d (encK u k), .no, .no, .no] [.ins (TwC K) [], .lst (((ams ++ p.flatMap nmK).map (u * ·)).map .int ++ [.int (u * (ly k).A), .int (u * (ly k).B), .int (u * k.a)])] := by
      walk_at "s1"
    refine ⟨_, _, _, rfl, .inl st, _, rfl, ?_⟩
    rw [List.flatMap_append, ← List.append_assoc, List.map_append (l₂ := List.flatMap nmK [k]), List.map_append (l₂ := List.map _ (List.flatMap nmK [k]))]
    rfl)
  subst e2 e3
  refine ⟨s6, ?_⟩
  rw [List.nil_append] at e1
  rw [show ams ++ (k1 ++ k2).flatMap nmK = nms k1 k2 ams from rfl] at e1
  have c6 : (eLcC (iCel (eV 5)) (gtN 9) (op2 neD (eBin modD (eV 9) (eV 3)) (eC (.int (0)))) (eV 9) [9]) [.cel 0, .d (.tuple (k1.map (encK u))), .d (.tuple (k2.map (encK u))), .d (.int u), .d (.tuple ((ams.map (u * ·)).map .int)), .cel 1, s6, .no, .no, .no] [.ins (TwC K) [], .lst (((nms k1 k2 ams).map (u * ·)).map .int)] = .ok (.own (.lst [])) [.ins (TwC K) [], .lst (((nms k1 k2 ams).map (u * ·)).map .int)] := by
    refine eLcC_of (iCel_of (j := 1) (xs := ((nms k1 k2 ams).map (u * ·)).map .int) (by walk_at "ev") rfl) ?_
    refine lcC_none rfl PyData.int [] _ fun x hx => ⟨_, rfl, ?_⟩
    obtain ⟨n, _, rfl⟩ := List.mem_map.1 hx
    refine q_cast (z := decide (u * n % u ≠ 0)) ?_ (decide_eq_false (by rw [Int.mul_emod_right]; simp))
    walk_at "ev"
  unfold B_Towers___init__
  walk_at "st"
  rfl
end
theorem max_u {u : Int} (hu : 0 < u) {ns : List Int} (h : ns ≠ []) : ∃ M ∈ ns, (∀ y ∈ ns, y ≤ M) ∧ maxLG [.list ((ns.map (u * ·)).map .int)] = some (.int (u * M)) := by
  have hm := mostI_is.most_mem ns h
  refine ⟨mostI ns, hm, fun y hy => mostI_is.le_most y ns hy, ?_⟩
  have e : u * mostI ns = mostI (ns.map (u * ·)) := mostI_is (List.mem_map_of_mem hm) fun y hy => by
    obtain ⟨x, hx, rfl⟩ := List.mem_map.1 hy
    exact Int.mul_le_mul_of_nonneg_left (mostI_is.le_most x ns hx) (Int.le_of_lt hu)
  have i := intsD_map id (ns.map (u * ·))
  simp only [id, List.map_id'] at i
  rw [e]
  have h2 : ns.map (u * ·) ≠ [] := by simpa using h
  generalize ns.map (u * ·) = L at *
  unfold maxLG
  dsimp only
  rw [i]
  dsimp only
  rw [List.map_id, if_pos (List.length_pos_iff.2 h2)]
section
variable (K : PySem.W.Frag) (w : PySem.World) {u : Int} {k1 k2 : List Kd} {ams : List Int}
local macro_rules | `(tactic| walk_at "pf1") => `(tactic| first | with_reducible exact pf_nil _ _ | with_reducible exact pf2 _ | with_reducible exact pf3 _ | with_reducible exact pf4 _ _ | with_reducible exact pf5 _ _)
theorem mu_div {u : Int} (hu : GU u) (x : Int) : fdivD (.int (u * x)) (.int u) = some (.int x) := by
  have := hu.1
  have := hu.2
  rw [p_fdiv (by omega) (by omega), Int.mul_ediv_cancel_left _ (by omega)]
theorem nms_ne (h : 1 ≤ ams.length) : nms k1 k2 ams ≠ [] := by
  intro e
  have := congrArg List.length e
  unfold nms at this
  simp at this
  rw [this.1] at h
  simp at h
theorem tower_layers (hu : GU u) {ks : List Kd} (h : GT ks) {ρ : List S} {cs : Store} (h7 : ρ[7]? = some (.d (.tuple (ks.map (encK u))))) (h3 : ρ[3]? = some (.d (.int u))) (hl : ρ.length = 10) :
    (eLc (iAnyM (eV 7)) (gtN 6) tYesM (eTup (aCons (eBin fdivD (eBin ixD (eFrz (eCall F_layer_of (aCons (eV 6) aNil))) (eC (.int (0)))) (eV 3)) (aCons (eBin fdivD (eBin ixD (eFrz (eCall F_layer_of (aCons (eV 6) aNil))) (eC (.int (1)))) (eV 3)) aNil))) [6]) ρ cs = .ok (.own (.lst ((lyn ks).map encLy))) cs := by
  refine q_lc (xs := ks.map (encK u)) (q_any (eV_ofP h7) rfl) ?_
  rw [lc_all (encK u) (fun k => encLy (ly k)) ks (fun k hk => ⟨_, rfl, rfl, by
    have lo := layer_of_ hu (h.1 k hk)
    have d1 := mu_div hu (ly k).A
    have d2 := mu_div hu (ly k).B
    unfold encLy sc at lo
    have e6 : ((wipeS ρ [6]).set 6 (.d (encK u k)))[6]? = some (.d (encK u k)) := by
      show ((ρ.set 6 .no).set 6 _)[6]? = _
      rw [List.getElem?_set_self (by rw [List.length_set]; omega)]
    have e3 : ((wipeS ρ [6]).set 6 (.d (encK u k)))[3]? = some (.d (.int u)) := by
      show ((ρ.set 6 .no).set 6 _)[3]? = _
      rw [List.getElem?_set_ne (by omega), List.getElem?_set_ne (by omega), h3]
    generalize (wipeS ρ [6]).set 6 (.d (encK u k)) = ρ' at *
    have v6 := q_v (cs := cs) e6
    have v3 := q_v (cs := cs) e3
    show _ = Res.ok (S.d (.tuple [.int (ly k).A, .int (ly k).B])) _
    walk_at "ev"⟩) (by have := h.2; omega)]
  unfold lyn
  rw [List.map_map]
  rfl
theorem init_ (hu : GU u) (h1 : GT k1) (h2 : GT k2) (hl : 1 ≤ ams.length ∧ ams.length ≤ 6) (ha : ∀ m ∈ ams, 1 ≤ m ∧ m ≤ 100) (hp : ams.Pairwise (· < ·)) (hx : ∀ n ∈ nms k1 k2 ams, n ≤ 40) {C0 : List (List Int)} (hC : ClsT (lyn k1) (lyn k2) ams C0) {Q' : List (List Int × List (Int × Int))} (hz : bfsA (stp0 (lyn k1) (lyn k2)) (prs ams) 5000 0 [(List.replicate ((lyn k1).length + (lyn k2).length) 0, [])] = some (.inr Q')) :
    F_Towers___init__ K w [.cel 0, .d (.tuple (k1.map (encK u))), .d (.tuple (k2.map (encK u))), .d (.int u), .d (.tuple ((ams.map (u * ·)).map .int))] [.ins (TwC K) []] = .ok (.d .none) (cS K w k1 k2 u (tupI (List.replicate ((lyn k1).length + (lyn k2).length) 0)) (.lst (((nms k1 k2 ams).map (u * ·)).map .int)) ((prs ams).map (encP u)) Q') := by
  obtain ⟨s6, e⟩ := init_head K w hu h1 h2 hl ha hp
  have hu1 := hu.1
  have m1 := h1.2
  have m2 := h2.2
  obtain ⟨M, hM, hM2, hM3⟩ := max_u (u := u) (by omega) (nms_ne (k1 := k1) (k2 := k2) hl.1)
  have fd := mu_div hu M
  have h40 : ¬ 40 < M := by
    have := hx M hM
    omega
  generalize ((nms k1 k2 ams).map (u * ·)).map PyData.int = N at *
  have c1 := cs_ K w (u := u) h1 h2 (fun m hm => by have := ha m hm; omega) hl.2 hC hz (.lst N)
  have l1 := tower_layers (cs := [.ins (TwC K) (tw2 (twT k1 k2 u)), .lst N, .lst []]) hu h1 (ρ := [.cel 0, .d (.tuple (k1.map (encK u))), .d (.tuple (k2.map (encK u))), .d (.int u), .d (.tuple ((ams.map (u * ·)).map .int)), .cel 1, s6, .d (.tuple (k1.map (encK u))), .no, .no]) rfl rfl rfl
  have l2 := tower_layers (cs := [.ins (TwC K) (tw2 (twT k1 k2 u)), .lst N, .lst [.list ((lyn k1).map encLy)]]) hu h2 (ρ := [.cel 0, .d (.tuple (k1.map (encK u))), .d (.tuple (k2.map (encK u))), .d (.int u), .d (.tuple ((ams.map (u * ·)).map .int)), .cel 1, s6, .d (.tuple (k2.map (encK u))), .no, .no]) rfl rfl rfl
  have f1 : gFor (gtN 7) ((sExp (eMt appG (eFld (He.ga K "Towers") "layers" (eV 0)) (aCons (eFrz (eLc (iAnyM (eV 7)) (gtN 6) tYesM (eTup (aCons (eBin fdivD (eBin ixD (eFrz (eCall F_layer_of (aCons (eV 6) aNil))) (eC (.int (0)))) (eV 3)) (aCons (eBin fdivD (eBin ixD (eFrz (eCall F_layer_of (aCons (eV 6) aNil))) (eC (.int (1)))) (eV 3)) aNil))) [6])) aNil)))) [.tuple (k1.map (encK u)), .tuple (k2.map (encK u))] [.cel 0, .d (.tuple (k1.map (encK u))), .d (.tuple (k2.map (encK u))), .d (.int u), .d (.tuple ((ams.map (u * ·)).map .int)), .cel 1, s6, .no, .no, .no] [.ins (TwC K) (tw2 (twT k1 k2 u)), .lst N, .lst []] = .nx [.cel 0, .d (.tuple (k1.map (encK u))), .d (.tuple (k2.map (encK u))), .d (.int u), .d (.tuple ((ams.map (u * ·)).map .int)), .cel 1, s6, .d (.tuple (k2.map (encK u))), .no, .no] [.ins (TwC K) (tw2 (twT k1 k2 u)), .lst N, twL k1 k2] := by
    have b1 : ((sExp (eMt appG (eFld (He.ga K "Towers") "layers" (eV 0)) (aCons (eFrz (eLc (iAnyM (eV 7)) (gtN 6) tYesM (eTup (aCons (eBin fdivD (eBin ixD (eFrz (eCall F_layer_of (aCons (eV 6) aNil))) (eC (.int (0)))) (eV 3)) (aCons (eBin fdivD (eBin ixD (eFrz (eCall F_layer_of (aCons (eV 6) aNil))) (eC (.int (1)))) (eV 3)) aNil))) [6])) aNil)))) [.cel 0, .d (.tuple (k1.map (encK u))), .d (.tuple (k2.map (encK u))), .d (.int u), .d (.tuple ((ams.map (u * ·)).map .int)), .cel 1, s6, .d (.tuple (k1.map (encK u))), .no, .no] [.ins (TwC K) (tw2 (twT k1 k2 u)), .lst N, .lst []] = .nx [.cel 0, .d (.tuple (k1.map (encK u))), .d (.tuple (k2.map (encK u))), .d (.int u), .d (.tuple ((ams.map (u * ·)).map .int)), .cel 1, s6, .d (.tuple (k1.map (encK u))), .no, .no] [.ins (TwC K) (tw2 (twT k1 k2 u)), .lst N, .lst [.list ((lyn k1).map encLy)]] := by
      walk_at "s1"
    have b2 : ((sExp (eMt appG (eFld (He.ga K "Towers") "layers" (eV 0)) (aCons (eFrz (eLc (iAnyM (eV 7)) (gtN 6) tYesM (eTup (aCons (eBin fdivD (eBin ixD (eFrz (eCall F_layer_of (aCons (eV 6) aNil))) (eC (.int (0)))) (eV 3)) (aCons (eBin fdivD (eBin ixD (eFrz (eCall F_layer_of (aCons (eV 6) aNil))) (eC (.int (1)))) (eV 3)) aNil))) [6])) aNil)))) [.cel 0, .d (.tuple (k1.map (encK u))), .d (.tuple (k2.map (encK u))), .d (.int u), .d (.tuple ((ams.map (u * ·)).map .int)), .cel 1, s6, .d (.tuple (k2.map (encK u))), .no, .no] [.ins (TwC K) (tw2 (twT k1 k2 u)), .lst N, .lst [.list ((lyn k1).map encLy)]] = .nx [.cel 0, .d (.tuple (k1.map (encK u))), .d (.tuple (k2.map (encK u))), .d (.int u), .d (.tuple ((ams.map (u * ·)).map .int)), .cel 1, s6, .d (.tuple (k2.map (encK u))), .no, .no] [.ins (TwC K) (tw2 (twT k1 k2 u)), .lst N, twL k1 k2] := by
      walk_at "s1"
    exact for_step rfl (.inl b1) (for_step rfl (.inl b2) rfl)
  obtain ⟨ρ2, cs2, f2, s8, e2, e3⟩ := for_inv (tg := gtN 8) (g := (sExp (eMt extG (eFld (He.ga K "Towers") "pairs" (eV 0)) (aCons (eFrz (eLst (aCons (eTup (aCons (eTup (aCons (eV 8) (aCons (eC (.int (1))) aNil))) (aCons (eBin fdivD (eV 8) (eV 3)) (aCons (eC (.int (1))) aNil)))) (aCons (eTup (aCons (eTup (aCons (eV 8) (aCons (eC (.int (0))) aNil))) (aCons (eBin fdivD (eV 8) (eV 3)) (aCons (eC (.int (0))) aNil)))) aNil)))) aNil)))) (fun m => PyData.int (u * m)) (fun p ρ cs => ∃ s8, ρ = [.cel 0, .d (.tuple (k1.map (encK u))), .d (.tuple (k2.map (encK u))), .d (.int u), .d (.tuple ((ams.map (u * ·)).map .int)), .cel 1, s6, .d (.tuple (k2.map (encK u))), s8, .no] ∧ cs = [.ins (TwC K) (tw3 (twT k1 k2 u)), .lst N, twL k1 k2, .lst ((prs p).map (encP u))]) ams [] [.cel 0, .d (.tuple (k1.map (encK u))), .d (.tuple (k2.map (encK u))), .d (.int u), .d (.tuple ((ams.map (u * ·)).map .int)), .cel 1, s6, .d (.tuple (k2.map (encK u))), .no, .no] [.ins (TwC K) (tw3 (twT k1 k2 u)), .lst N, twL k1 k2, .lst []] ⟨_, rfl, rfl⟩ (by
    rintro p m ρ cs ⟨q, hq⟩ ⟨s8, rfl, rfl⟩
    have hq : ams = p ++ m :: q := hq
    have pl : p.length ≤ 6 := by
      have := congrArg List.length hq
      simp at this
      omega
    have d1 := mu_div hu m
    have hll : ((prs p).map (encP u)).length + [PyData.tuple [.tuple [.int (u * m), .int 1], .int m, .int 1], .tuple [.tuple [.int (u * m), .int 0], .int m, .int 0]].length < 1000000 := by
      rw [List.length_map, prs_len]
      simp
      omega
    have st : ((sExp (eMt extG (eFld (He.ga K "Towers") "pairs" (eV 0)) (aCons (eFrz (eLst (aCons (eTup (aCons (eTup (aCons (eV 8) (aCons (eC (.int (1))) aNil))) (aCons (eBin fdivD (eV 8) (eV 3)) (aCons (eC (.int (1))) aNil)))) (aCons (eTup (aCons (eTup (aCons (eV 8) (aCons (eC (.int (0))) aNil))) (aCons (eBin fdivD (eV 8) (eV 3)) (aCons (eC (.int (0))) aNil)))) aNil)))) aNil)))) [.cel 0, .d (.tuple (k1.map (encK u))), .d (.tuple (k2.map (encK u))), .d (.int u), .d (.tuple ((ams.map (u * ·)).map .int)), .cel 1, s6, .d (.tuple (k2.map (encK u))), .d (.int (u * m)), .no] [.ins (TwC K) (tw3 (twT k1 k2 u)), .lst N, twL k1 k2, .lst ((prs p).map (encP u))] = .nx [.cel 0, .d (.tuple (k1.map (encK u))), .d (.tuple (k2.map (encK u))), .d (.int u), .d (.tuple ((ams.map (u * ·)).map .int)), .cel 1, s6, .d (.tuple (k2.map (encK u))), .d (.int (u * m)), .no] [.ins (TwC K) (tw3 (twT k1 k2 u)), .lst N, twL k1 k2, .lst ((prs p).map (encP u) ++ [.tuple [.tuple [.int (u * m), .int 1], .int m, .int 1], .tuple [.tuple [.int (u * m), .int 0], .int m, .int 0]])] := by
      walk_at "s1"
    refine ⟨_, _, _, rfl, .inl st, _, rfl, ?_⟩
    have : prs (p ++ [m]) = prs p ++ [(m, 1), (m, 0)] := by unfold prs; rw [List.flatMap_append]; rfl
    rw [this, List.map_append]
    rfl)
  subst e2 e3
  rw [List.nil_append] at f2
  have eml : ams.map (fun m => PyData.int (u * m)) = (ams.map (u * ·)).map PyData.int := by rw [List.map_map]; rfl
  rw [eml] at f2
  have em : mulE (.tuple [.int 0]) (.int (((k1.map (encK u)).length : Nat) + ((k2.map (encK u)).length : Nat))) = some (tupI (List.replicate ((lyn k1).length + (lyn k2).length) 0)) := by
    rw [List.length_map, List.length_map, lyn_len, lyn_len, ← Int.natCast_add]
    exact mulE_zeros _ (by omega)
  unfold F_Towers___init__
  refine q_runWx (ρ := [.cel 0, .d (.tuple (k1.map (encK u))), .d (.tuple (k2.map (encK u))), .d (.int u), .d (.tuple ((ams.map (u * ·)).map .int)), .no, .no, .no, .no, .no]) (ρ' := [.cel 0, .d (.tuple (k1.map (encK u))), .d (.tuple (k2.map (encK u))), .d (.int u), .d (.tuple ((ams.map (u * ·)).map .int)), .cel 1, s6, .d (.tuple (k2.map (encK u))), s8, .no]) (by walk_at "rep") (e.trans ?_)
  walk_at "st"
  walk_at "s1"
end
noncomputable def resT (u : Int) : Sum (List (Int × Int)) (List (List Int × List (Int × Int))) → D
  | .inl r => .tuple [.str "apart", .list (r.map (encM u))]
  | .inr Q => .tuple [.str "alike", .list (sortDt ((Q.map Prod.fst).map tupI))]
theorem bfsS_all {σ μ : Type} [DecidableEq σ] {f : σ → μ → σ} {ms : List μ} (P : σ → Prop) (hP : ∀ s, P s → ∀ m ∈ ms, P (f s m)) : ∀ {k i : Nat} {Q R : List σ}, bfsS f ms k i Q = some R → (∀ s ∈ Q, P s) → ∀ s ∈ R, P s
  | 0, _, _, _, h, _ => by cases h
  | k + 1, i, Q, R, h, hq => by
    have h' : (match Q[i]? with
      | none => some Q
      | some s => bfsS f ms k (i + 1) (expS f s ms Q)) = some R := h
    cases e : Q[i]? with
    | none => rw [e] at h'; cases h'; exact hq
    | some s =>
      rw [e] at h'
      exact bfsS_all P hP h' (expS_sub f s P ms Q hq fun m hm => hP s (hq s (List.mem_of_getElem? e)) m hm)
theorem bfsS_grow {σ μ : Type} [DecidableEq σ] {f : σ → μ → σ} {ms : List μ} : ∀ {k i : Nat} {Q R : List σ}, bfsS f ms k i Q = some R → ∃ T, R = Q ++ T
  | 0, _, _, _, h => by cases h
  | k + 1, i, Q, R, h => by
    have h' : (match Q[i]? with
      | none => some Q
      | some s => bfsS f ms k (i + 1) (expS f s ms Q)) = some R := h
    cases e : Q[i]? with
    | none => rw [e] at h'; cases h'; exact ⟨[], (List.append_nil _).symm⟩
    | some s =>
      rw [e] at h'
      obtain ⟨T, hT⟩ := bfsS_grow h'
      obtain ⟨U, hU⟩ := expS_pre f s ms Q
      exact ⟨U ++ T, by rw [hT, hU, List.append_assoc]⟩
theorem walks_same {T1 T2 : List Ly} {ams : List Int} {C0 : List (List Int)} (hC : ClsT T1 T2 ams C0) : ∃ R z Q0, bfsS (fun s m => (stp2 T1 T2 s m).1) (prs ams) 5000 0 [List.replicate (T1.length + T2.length) 0] = some R ∧ bfsA (stp2 T1 T2) (prs ams) 5000 0 [(List.replicate (T1.length + T2.length) 0, [])] = some z ∧ bfsA (stp0 T1 T2) (prs ams) 5000 0 [(List.replicate (T1.length + T2.length) 0, [])] = some (.inr Q0) ∧ Q0.map Prod.fst = R ∧ (∀ Q, z = .inr Q → Q.map Prod.fst = R) ∧ R.Nodup ∧ R.length ≤ 4000 := by
  obtain ⟨c1, c2, c3⟩ := hC
  obtain ⟨R, r1, r2, r3, r4⟩ := bfsS_total (fun s m => (stp2 T1 T2 s m).1) (prs ams) (R := C0) c1 5000 0 [List.replicate (T1.length + T2.length) 0] (by simp) (fun x hx => by rw [List.mem_singleton] at hx; rw [hx]; exact c2) (by omega) (Nat.zero_le _)
  have a0 : ∃ Q0, bfsA (stp0 T1 T2) (prs ams) 5000 0 [(List.replicate (T1.length + T2.length) 0, [])] = some (.inr Q0) ∧ Q0.map Prod.fst = R := by
    rcases bfsA_total (f := stp0 T1 T2) (ms := prs ams) (k := 5000) (i := 0) (Q := [(List.replicate (T1.length + T2.length) 0, [])]) (R := R) r1 with ⟨r, e⟩ | h
    · obtain ⟨_, _, _, _, _, _, e2⟩ := bfsA_way (s0 := List.replicate (T1.length + T2.length) 0) e (fun q hq => by rw [List.mem_singleton] at hq; subst hq; rfl)
      cases e2
    · exact h
  obtain ⟨Q0, q1, q2⟩ := a0
  rcases bfsA_total (f := stp2 T1 T2) (ms := prs ams) (k := 5000) (i := 0) (Q := [(List.replicate (T1.length + T2.length) 0, [])]) (R := R) r1 with ⟨r, e⟩ | ⟨Q, e, e2⟩
  · exact ⟨R, .inl r, Q0, r1, e, q1, q2, (fun Q hQ => by cases hQ), r2, by omega⟩
  · exact ⟨R, .inr Q, Q0, r1, e, q1, q2, (fun Q' hQ => by cases hQ; exact e2), r2, by omega⟩
section
variable (K : PySem.W.Frag) (w : PySem.World) {u : Int} {k1 k2 : List Kd} {ams : List Int}
theorem nd_sort2 {T1 T2 : List Ly} {R : List (List Int)} (hn : R.Nodup) (hl : ∀ s ∈ R, s.length = T1.length + T2.length) (h0 : R ≠ []) : (∀ q ∈ R, q ≠ []) ∨ R = [[]] := by
  by_cases c : T1.length + T2.length = 0
  · right
    have all : ∀ s ∈ R, s = [] := fun s hs => List.length_eq_zero_iff.1 (by rw [hl s hs, c])
    match R, h0 with
    | [s], _ => rw [all s (by simp)]
    | s :: t :: L, _ =>
      rw [all s (by simp), all t (by simp)] at hn
      simp at hn
  · left
    intro s hs e
    have := hl s hs
    rw [e] at this
    simp at this
    omega
theorem alike_ (hu : GU u) (h1 : GT k1) (h2 : GT k2) (hl : 1 ≤ ams.length ∧ ams.length ≤ 6) (ha : ∀ m ∈ ams, 1 ≤ m ∧ m ≤ 100) (hp : ams.Pairwise (· < ·)) (hx : ∀ n ∈ nms k1 k2 ams, n ≤ 40) {C0 : List (List Int)} (hC : ClsT (lyn k1) (lyn k2) ams C0) :
    ∃ z, bfsA (stp2 (lyn k1) (lyn k2)) (prs ams) 5000 0 [(List.replicate ((lyn k1).length + (lyn k2).length) 0, [])] = some z ∧ F_towers_alike K w [.d (.tuple (k1.map (encK u))), .d (.tuple (k2.map (encK u))), .d (.int u), .d (.tuple ((ams.map (u * ·)).map .int))] [] = .ok (.d (resT u z)) [] := by
  obtain ⟨R, z, Q0, r1, z1, q1, q2, hzR, rn, rl⟩ := walks_same hC
  refine ⟨z, z1, ?_⟩
  have c1 := check_tower_ hu h1
  have c2 := check_tower_ hu h2
  have e := init_ K w hu h1 h2 hl ha hp hx hC q1
  have ap := ap_ K w hu h1 h2 (fun m hm => by have := ha m hm; omega) hl.2 z1 (.lst (((nms k1 k2 ams).map (u * ·)).map .int)) (.lst ((Q0.map Prod.fst).map tupI)) (.dV w ((Q0.map Prod.fst).map kT))
  have mk : eMakeW (He.ga K "Towers") (F_Towers___init__ K w) (aCons (eV 0) (aCons (eV 1) (aCons (eV 2) (aCons (eV 3) aNil)))) [.d (.tuple (k1.map (encK u))), .d (.tuple (k2.map (encK u))), .d (.int u), .d (.tuple ((ams.map (u * ·)).map .int)), .no, .no] [] = .ok (.cel 0) (cS K w k1 k2 u (tupI (List.replicate ((lyn k1).length + (lyn k2).length) 0)) (.lst (((nms k1 k2 ams).map (u * ·)).map .int)) ((prs ams).map (encP u)) Q0) := q_make (ss := [.d (.tuple (k1.map (encK u))), .d (.tuple (k2.map (encK u))), .d (.int u), .d (.tuple ((ams.map (u * ·)).map .int))]) (cs1 := []) (by walk_at "ev") e rfl
  rw [q2] at ap
  simp only [cS, q2] at mk
  unfold F_towers_alike B_towers_alike
  cases z with
  | inl r =>
    obtain ⟨cs2, ap⟩ := ap
    refine q_run (by walk_at "rep") (r := .d (.tuple [.str "apart", .list (r.map (encM u))])) (cs1 := cs2) ?_ rfl rfl
    walk_at "st"
    walk_at "s1"
  | inr Q' =>
    obtain ⟨cs2, ap⟩ := ap
    have hs : sortedTG [.list (R.map tupI)] = some (.list (sortDt (R.map tupI))) := by
      have g1 := lyn_g h1.1
      have g2 := lyn_g h2.1
      have sl : ∀ s ∈ R, St2 (lyn k1) (lyn k2) s := bfsS_all (f := fun s m => (stp2 (lyn k1) (lyn k2) s m).1) (St2 (lyn k1) (lyn k2)) (fun s hs m hm => stp2_St g1 g2 hs (by have := ha _ (prs_mem hm); omega)) r1 fun s hs => by
        rw [List.mem_singleton] at hs
        rw [hs, ← List.replicate_append_replicate]
        exact app_St2 (zero_StT g1) (zero_StT g2)
      have rne : R ≠ [] := by
        obtain ⟨T, hT⟩ := bfsS_grow r1
        rw [hT]; simp
      exact sortedTG_ints R (nd_sort2 rn (fun s hs => (sl s hs).len) rne) (by omega)
    refine q_run (by walk_at "rep") (r := .d (.tuple [.str "alike", .list (sortDt (R.map tupI))])) (cs1 := .ins (TwC K) (tw5 (twT k1 k2 u) (tupI (List.replicate ((lyn k1).length + (lyn k2).length) 0))) :: (.lst (((nms k1 k2 ams).map (u * ·)).map .int)) :: twL k1 k2 :: .lst ((prs ams).map (encP u)) :: .lst (R.map tupI) :: .dV w (R.map kT) :: cs2) ?_ rfl (by unfold resT; dsimp only; rw [hzR Q' rfl]; rfl)
    walk_at "st"
    walk_at "s1"
end
theorem lc_dr {nums : List Int} {c : Store} {α : Type} {ρ : List S} {i : Nat} {fe : List S → M S} (e : α → D) (P : α → Prop) (s : Nat) (st : ∀ (j k : Nat), k < 100000000000 → ∃ y, P y ∧ fe (ρ.set i (.d (.int (j : Nat)))) (DSc nums k c) = .ok (.d (e y)) (DSc nums (k + s) c)) (n k : Nat) (hk : k + s * n < 100000000000) (hn : n < 1000) : ∃ ys : List α, ys.length = n ∧ (∀ y ∈ ys, P y) ∧ lcL (gtN i) tYesM fe ρ (upTo 0 n) [] (DSc nums k c) = .ok (.own (.lst (ys.map e))) (DSc nums (k + s * n) c) := by
  obtain ⟨zs, cs2, h1, ys, h2, h3, h4, h5⟩ := lc_inv (tg := gtN i) (t := tYesM) (fe := fe) (ρ := ρ) (fun (j : Nat) => PyData.int (j : Nat)) (fun p acc cs => ∃ ys : List α, ys.length = p.length ∧ (∀ y ∈ ys, P y) ∧ acc = ys.map e ∧ cs = DSc nums (k + s * p.length) c) (List.range n) [] [] (DSc nums k c) ⟨[], rfl, (fun y hy => by cases hy), rfl, rfl⟩ (by simp; omega) (by
    rintro p j acc cs ⟨q, hq⟩ ⟨ys, h2, h3, rfl, rfl⟩
    have pl : p.length < n := by
      have := congrArg List.length hq
      simp at this
      omega
    have : s * p.length ≤ s * n := Nat.mul_le_mul_left s (by omega)
    obtain ⟨y, hy, hf⟩ := st j (k + s * p.length) (by omega)
    refine ⟨_, _, rfl, .inr ⟨e y, _, rfl, hf, ys ++ [y], by simp [h2], fun z hz => ?_, by simp, ?_⟩⟩
    · rw [List.mem_append, List.mem_singleton] at hz
      rcases hz with hz | rfl
      · exact h3 z hz
      · exact hy
    · rw [List.length_append, List.length_singleton, Nat.mul_add, Nat.mul_one, Nat.add_assoc])
  subst h4 h5
  rw [List.nil_append, List.length_range] at h2 h1
  exact ⟨ys, h2, h3, by rw [upTo_map]; exact h1⟩
def Gd (k : Kd) : Prop := k.t ≤ 2 ∧ (0 ≤ k.a ∧ k.a ≤ 4) ∧ (0 ≤ k.b ∧ k.b ≤ 3) ∧ (0 ≤ k.c ∧ k.c ≤ 1) ∧ k.e = 500
theorem Gd.gk {k : Kd} (h : Gd k) : GK k := by
  obtain ⟨h1, h2, h3, h4, h5⟩ := h
  unfold GK
  omega
def Ge (k : Kd) : Prop := k.t ≤ 2 ∧ (0 ≤ k.a ∧ k.a ≤ 5) ∧ (0 ≤ k.b ∧ k.b ≤ 3) ∧ (0 ≤ k.c ∧ k.c ≤ 1) ∧ k.e = 500
theorem Gd.ge {k : Kd} (h : Gd k) : Ge k := by
  obtain ⟨h1, h2, h3, h4, h5⟩ := h
  unfold Ge
  omega
theorem Ge.gk {k : Kd} (h : Ge k) : GK k := by
  obtain ⟨h1, h2, h3, h4, h5⟩ := h
  unfold GK
  omega
section
variable {nums : List Int} {u : Int}
theorem law_kind_ (h : InR nums) (hu : GU u) {k : Nat} (hk : k < 100000000000) (c : Store) : ∃ kd, Gd kd ∧ callC F__law_kind [.cel 0, .d (.int u)] (DSc nums k c) = .ok (.d (encK u kd)) (DSc nums (k + 4) c) := by
  have hu1 := hu.1
  have hu2 := hu.2
  have d1 := drc (c := []) h (show k < 1000000000000 by omega) (k + 1) rfl
  have d2 := drc (c := []) h (show k + 1 < 1000000000000 by omega) (k + 2) rfl
  have d3 := drc (c := []) h (show k + 2 < 1000000000000 by omega) (k + 3) rfl
  have d4 := drc (c := []) h (show k + 3 < 1000000000000 by omega) (k + 4) rfl
  have a1 : 0 ≤ dr nums k % 5 ∧ dr nums k % 5 ≤ 4 := by omega
  have a2 : 0 ≤ dr nums (k + 1) % 4 ∧ dr nums (k + 1) % 4 ≤ 3 := by omega
  have a3 : 0 ≤ dr nums (k + 2) % 2 ∧ dr nums (k + 2) % 2 ≤ 1 := by omega
  have e1 : modD (.int (dr nums k)) (.int 5) = some (.int (dr nums k % 5)) := p_mod (by omega)
  have e2 : modD (.int (dr nums (k + 1))) (.int 4) = some (.int (dr nums (k + 1) % 4)) := p_mod (by omega)
  have e3 : modD (.int (dr nums (k + 2))) (.int 2) = some (.int (dr nums (k + 2) % 2)) := p_mod (by omega)
  have e4 : modD (.int (dr nums (k + 3))) (.int 4) = some (.int (dr nums (k + 3) % 4)) := p_mod (by omega)
  generalize dr nums k % 5 = A at *
  generalize dr nums (k + 1) % 4 = B at *
  generalize dr nums (k + 2) % 2 = C at *
  have a4 : dr nums (k + 3) % 4 = 0 ∨ dr nums (k + 3) % 4 = 1 ∨ dr nums (k + 3) % 4 = 2 ∨ dr nums (k + 3) % 4 = 3 := by omega
  generalize dr nums (k + 3) % 4 = I at *
  have run : ∀ V : D, atI [PyData.tuple [.str "risk", .int (u * A), .int (u * B)], .tuple [.str "event", .int (u * A), .int (u * B)], .tuple [.str "year", .int (u * A), .int (u * B), .int C, .int 500], .tuple [.str "risk", .int (u * A), .int (u * B)]] I = some V → F__law_kind [.cel 0, .d (.int u)] (DSc nums k []) = .ok (.d V) (DSc nums (k + 4) []) := fun V hV => by
    unfold F__law_kind B__law_kind
    refine q_run (by walk_at "rep") (r := .d V) (cs1 := DSc nums (k + 4) []) ?_ rfl rfl
    walk_at "st"
    walk_at "s1"
  have gd : ∀ t : Nat, t ≤ 2 → Gd ⟨t, A, B, C, 500⟩ := fun t ht => ⟨ht, ⟨a1.1, by show A ≤ 4; omega⟩, a2, a3, rfl⟩
  rcases a4 with rfl | rfl | rfl | rfl
  · exact ⟨⟨0, A, B, C, 500⟩, gd 0 (by omega), callC_DS rfl (run _ (atI0 _ _))⟩
  · exact ⟨⟨1, A, B, C, 500⟩, gd 1 (by omega), callC_DS rfl (run _ (atI1 _ _ _))⟩
  · exact ⟨⟨2, A, B, C, 500⟩, gd 2 (by omega), callC_DS rfl (run _ (atI2 _ _ _ _))⟩
  · exact ⟨⟨0, A, B, C, 500⟩, gd 0 (by omega), callC_DS rfl (run _ (atI3 _ _ _ _ _))⟩
theorem kinds_ (h : InR nums) (hu : GU u) {ρ : List S} (h0 : ρ[0]? = some (.cel 0)) (h1 : ρ[1]? = some (.d (.int u))) (hl : 7 < ρ.length) (n k : Nat) (hk : k + 4 * n < 100000000000) (hn : n < 1000) (c : Store) : ∃ ks : List Kd, ks.length = n ∧ (∀ y ∈ ks, Gd y) ∧ lcL (gtN 7) tYesM ((eFrz (eCallC F__law_kind (aCons (eV 0) (aCons (eV 1) aNil))))) (wipeS ρ [7]) (upTo 0 n) [] (DSc nums k c) = .ok (.own (.lst (ks.map (encK u)))) (DSc nums (k + 4 * n) c) := by
  refine lc_dr (encK u) Gd 4 (fun j k hk => ?_) n k hk hn
  obtain ⟨kd, g, e⟩ := law_kind_ h hu hk c
  refine ⟨kd, g, ?_⟩
  have e0 : ((ρ.set 7 .no).set 7 (S.d (.int (j : Nat))))[0]? = some (.cel 0) := by rw [List.getElem?_set_ne (by omega), List.getElem?_set_ne (by omega), h0]
  have e1 : ((ρ.set 7 .no).set 7 (S.d (.int (j : Nat))))[1]? = some (.d (.int u)) := by rw [List.getElem?_set_ne (by omega), List.getElem?_set_ne (by omega), h1]
  have v0 := q_vc (cs := DSc nums k c) e0
  have v1 := q_v (cs := DSc nums k c) e1
  show eFrz (eCallC F__law_kind (aCons (eV 0) (aCons (eV 1) aNil))) ((ρ.set 7 .no).set 7 (S.d (.int (j : Nat)))) _ = _
  generalize (ρ.set 7 .no).set 7 (S.d (.int (j : Nat))) = ρ' at *
  walk_at "ev"
end
theorem Ge_gt {ks : List Kd} (h : ∀ k ∈ ks, Ge k) (hl : ks.length ≤ 4) : GT ks := ⟨fun k hk => (h k hk).gk, hl⟩
def rstK (k : Kd) : List D := if k.t = 2 then [.int k.c, .int k.e] else []
theorem encK_r {k : Kd} (h : GK k) (u : Int) : encK u k = .tuple (.str (tagS k) :: .int (u * k.a) :: .int (u * k.b) :: rstK k) := encK_eq h u
section
variable {nums : List Int} {u : Int}
local macro_rules | `(tactic| walk_at "sapp2") => `(tactic| rfl)
theorem law_towers_ (h : InR nums) (hu : GU u) {k : Nat} (hk : k < 10000000000) (c : Store) : ∃ (k1 k2 : List Kd) (k' : Nat), ((∀ x ∈ k1, Gd x) ∧ k1.length ≤ 3) ∧ ((∀ x ∈ k2, Ge x) ∧ k2.length ≤ 4) ∧ k' ≤ k + 100 ∧ callC F__law_towers [.cel 0, .d (.int u)] (DSc nums k c) = .ok (.own (.lst [.tuple (k1.map (encK u)), .tuple (k2.map (encK u))])) (DSc nums k' c) := by
  have hu1 := hu.1
  have hu2 := hu.2
  obtain ⟨n1, hn1⟩ : ∃ n1 : Nat, dr nums k % 4 = n1 := ⟨(dr nums k % 4).toNat, by omega⟩
  have d1 := drc (c := []) h (show k < 1000000000000 by omega) (k + 1) rfl
  have m1 : modD (.int (dr nums k)) (.int 4) = some (.int (n1 : Nat)) := by rw [p_mod (by omega), hn1]
  obtain ⟨k1, l1, g1, c1⟩ := kinds_ h hu (ρ := [.cel 0, .d (.int u), .no, .no, .no, .no, .no, .no]) rfl rfl (by simp) n1 (k + 1) (by omega) (by omega) []
  have e1 : (eLc (iRng (eBin modD (eFrz (eCallC F__law_draw (aCons (eV 0) aNil))) (eC (.int (4))))) (gtN 7) tYesM (eFrz (eCallC F__law_kind (aCons (eV 0) (aCons (eV 1) aNil)))) [7]) [.cel 0, .d (.int u), .no, .no, .no, .no, .no, .no] (DSc nums k []) = .ok (.own (.lst (k1.map (encK u)))) (DSc nums (k + 1 + 4 * n1) []) := q_lc (xs := upTo 0 n1) (by walk_at "ev") c1
  generalize hK : k + 1 + 4 * n1 = K1 at *
  have d2 := drc (c := []) h (show K1 < 1000000000000 by omega) (K1 + 1) rfl
  have pb : 0 ≤ dr nums K1 % 6 ∧ dr nums K1 % 6 ≤ 5 := by omega
  have m2 : modD (.int (dr nums K1)) (.int 6) = some (.int (dr nums K1 % 6)) := p_mod (by omega)
  generalize dr nums K1 % 6 = p at *
  have fin : ∀ {T1 T2 : D} {K' : Nat}, (gSeq (sSet 2 (eCd tupleG (aCons (eFrz (eLc (iRng (eBin modD (eFrz (eCallC F__law_draw (aCons (eV 0) aNil))) (eC (.int (4))))) (gtN 7) tYesM (eFrz (eCallC F__law_kind (aCons (eV 0) (aCons (eV 1) aNil)))) [7])) aNil)))
    (gSeq (sSet 3 (eBin modD (eFrz (eCallC F__law_draw (aCons (eV 0) aNil))) (eC (.int (6)))))
    (gSeq (sIf (tOrM (op2 eqD (eV 3) (eC (.int (0)))) (op2 eqD (eCd lenG (aCons (eV 2) aNil)) (eC (.int (0))))) (sRet (eLst (aCons (eV 2) (aCons (eCd tupleG (aCons (eFrz (eLc (iRng (eBin modD (eFrz (eCallC F__law_draw (aCons (eV 0) aNil))) (eC (.int (3))))) (gtN 7) tYesM (eFrz (eCallC F__law_kind (aCons (eV 0) (aCons (eV 1) aNil)))) [7])) aNil)) aNil)))) gNil)
    (gSeq (sSet 4 (eBin modD (eFrz (eCallC F__law_draw (aCons (eV 0) aNil))) (eCd lenG (aCons (eV 2) aNil))))
    (gSeq (sSet 5 (eBin ixD (eV 2) (eV 4)))
    (gSeq (sIf (op2 eqD (eV 3) (eC (.int (1)))) (sRet (eLst (aCons (eV 2) (aCons (eCd revTG (aCons (eV 2) aNil)) aNil)))) gNil)
    (gSeq (sIf (op2 eqD (eV 3) (eC (.int (2)))) (sRet (eLst (aCons (eV 2) (aCons (eBin addD (eBin addD (eSl (eV 2) oNone (oSome (eV 4))) (eSl (eV 2) (oSome (eBin addD (eV 4) (eC (.int (1))))) oNone)) (eTup (aCons (eV 5) aNil))) aNil)))) gNil)
    (gSeq (sIf (tAndM (op2 eqD (eV 3) (eC (.int (3)))) (op2 neD (eBin ixD (eV 5) (eC (.int (0)))) (eC (.str "year")))) (gSeq (sSet 6 (eBin mulD (eBin fdivD (eBin fdivD (eBin ixD (eV 5) (eC (.int (1)))) (eV 1)) (eC (.int (2)))) (eV 1)))
      (sRet (eLst (aCons (eV 2) (aCons (eBin addD (eBin addD (eSl (eV 2) oNone (oSome (eV 4))) (eTup (aCons (eTup (aCons (eBin ixD (eV 5) (eC (.int (0)))) (aCons (eV 6) (aCons (eBin ixD (eV 5) (eC (.int (2)))) aNil)))) (aCons (eTup (aCons (eBin ixD (eV 5) (eC (.int (0)))) (aCons (eBin subD (eBin ixD (eV 5) (eC (.int (1)))) (eV 6)) (aCons (eBin ixD (eV 5) (eC (.int (2)))) aNil)))) aNil)))) (eSl (eV 2) (oSome (eBin addD (eV 4) (eC (.int (1))))) oNone)) aNil))))) gNil)
    (gSeq (sIf (op2 eqD (eV 3) (eC (.int (4)))) (sRet (eLst (aCons (eV 2) (aCons (eBin addD (eBin addD (eSl (eV 2) oNone (oSome (eV 4))) (eBin mulE (eTup (aCons (eTup (aCons (eBin ixD (eV 5) (eC (.int (0)))) (aCons (eC (.int (0))) (aCons (eV 1) aNil)))) aNil)) (eCd intG (aCons (eCmp neD (eBin ixD (eV 5) (eC (.int (0)))) (eC (.str "year"))) aNil)))) (eSl (eV 2) (oSome (eV 4)) oNone)) aNil)))) gNil)
    (sRet (eLst (aCons (eV 2) (aCons (eBin addD (eBin addD (eSl (eV 2) oNone (oSome (eV 4))) (eTup (aCons (eBin addD (eBin addD (eSl (eV 5) oNone (oSome (eC (.int (1))))) (eTup (aCons (eBin addD (eBin ixD (eV 5) (eC (.int (1)))) (eV 1)) aNil))) (eSl (eV 5) (oSome (eC (.int (2)))) oNone)) aNil))) (eSl (eV 2) (oSome (eBin addD (eV 4) (eC (.int (1))))) oNone)) aNil))))))))))))) [.cel 0, .d (.int u), .no, .no, .no, .no, .no, .no] (DSc nums k []) = .rt (.own (.lst [T1, T2])) (DSc nums K' []) → callC F__law_towers [.cel 0, .d (.int u)] (DSc nums k c) = .ok (.own (.lst [T1, T2])) (DSc nums K' c) := fun {T1 T2 K'} hb => by
    refine callC_DSo rfl ?_
    unfold F__law_towers B__law_towers
    exact q_run (by walk_at "rep") hb rfl rfl
  have ln : ((k1.map (encK u)).length : Nat) = k1.length := List.length_map _
  by_cases hc0 : p = 0 ∨ k1.length = 0
  · obtain ⟨n2, hn2⟩ : ∃ n2 : Nat, dr nums (K1 + 1) % 3 = n2 := ⟨(dr nums (K1 + 1) % 3).toNat, by omega⟩
    have d3 := drc (c := []) h (show K1 + 1 < 1000000000000 by omega) (K1 + 2) rfl
    have m3 : modD (.int (dr nums (K1 + 1))) (.int 3) = some (.int (n2 : Nat)) := by rw [p_mod (by omega), hn2]
    obtain ⟨k2, l2, g2, c2⟩ := kinds_ h hu (ρ := [.cel 0, .d (.int u), .d (.tuple (k1.map (encK u))), .d (.int p), .no, .no, .no, .no]) rfl rfl (by simp) n2 (K1 + 2) (by omega) (by omega) []
    have e2 : (eLc (iRng (eBin modD (eFrz (eCallC F__law_draw (aCons (eV 0) aNil))) (eC (.int (3))))) (gtN 7) tYesM (eFrz (eCallC F__law_kind (aCons (eV 0) (aCons (eV 1) aNil)))) [7]) [.cel 0, .d (.int u), .d (.tuple (k1.map (encK u))), .d (.int p), .no, .no, .no, .no] (DSc nums (K1 + 1) []) = .ok (.own (.lst (k2.map (encK u)))) (DSc nums (K1 + 2 + 4 * n2) []) := q_lc (xs := upTo 0 n2) (by walk_at "ev") c2
    refine ⟨k1, k2, K1 + 2 + 4 * n2, ⟨g1, by omega⟩, ⟨fun x hx => (g2 x hx).ge, by omega⟩, by omega, fin ?_⟩
    have t : (decide (p = 0) || decide ((((k1.map (encK u)).length : Nat) : Int) = 0)) = true := by
      rw [Bool.or_eq_true, decide_eq_true_eq, decide_eq_true_eq, ln]
      omega
    walk_at "st"
    walk_at "s1"
  · have hp0 : ¬ p = 0 := fun e => hc0 (.inl e)
    have hl0 : ¬ ((((k1.map (encK u)).length : Nat) : Int) = 0) := by rw [ln]; omega
    have d3 := drc (c := []) h (show K1 + 1 < 1000000000000 by omega) (K1 + 2) rfl
    obtain ⟨a, ha⟩ : ∃ a : Nat, dr nums (K1 + 1) % (((k1.map (encK u)).length : Nat) : Int) = a := ⟨(dr nums (K1 + 1) % (((k1.map (encK u)).length : Nat) : Int)).toNat, by have := Int.emod_nonneg (dr nums (K1 + 1)) hl0; omega⟩
    have hal : a < k1.length := by
      have := Int.emod_lt_of_pos (dr nums (K1 + 1)) (show 0 < (((k1.map (encK u)).length : Nat) : Int) by omega)
      rw [ha, ln] at this
      omega
    have m3 : modD (.int (dr nums (K1 + 1))) (.int ((k1.map (encK u)).length : Nat)) = some (.int (a : Nat)) := by rw [p_mod (by omega), ha]
    generalize hkd : k1[a] = kd at *
    have gk : Gd kd := by rw [← hkd]; exact g1 _ (List.getElem_mem hal)
    have ek := encK_r gk.gk u
    have at1 : atI (k1.map (encK u)) (a : Nat) = some (.tuple (.str (tagS kd) :: .int (u * kd.a) :: .int (u * kd.b) :: rstK kd)) := by rw [at_map (encK u) hal, hkd, ek]
    have s1 : slD (.tuple (k1.map (encK u))) none (some (a : Nat)) = some (.tuple ((k1.take a).map (encK u))) := by rw [sl_take (by rw [ln]; omega), List.map_take]
    have s2 : slD (.tuple (k1.map (encK u))) (some ((a : Nat) + 1)) none = some (.tuple ((k1.drop (a + 1)).map (encK u))) := by
      rw [show ((a : Nat) : Int) + 1 = ((a + 1 : Nat) : Int) by omega, sl_drop, List.map_drop]
    have s3 : slD (.tuple (k1.map (encK u))) (some (a : Nat)) none = some (.tuple ((k1.drop a).map (encK u))) := by rw [sl_drop, List.map_drop]
    have ld1 : (k1.take a).length ≤ 3 := by rw [List.length_take]; omega
    have ld2 : (k1.drop (a + 1)).length + (k1.take a).length + 1 = k1.length := by rw [List.length_take, List.length_drop]; omega
    have ld3 : (k1.drop a).length + (k1.take a).length = k1.length := by rw [List.length_take, List.length_drop]; omega
    have lm1 : ((k1.take a).map (encK u)).length = (k1.take a).length := List.length_map _
    have lm2 : ((k1.drop (a + 1)).map (encK u)).length = (k1.drop (a + 1)).length := List.length_map _
    have lm3 : ((k1.drop a).map (encK u)).length = (k1.drop a).length := List.length_map _
    have gt1 : ∀ x ∈ k1.take a, Gd x := fun x hx => g1 x (List.mem_of_mem_take hx)
    have gd1 : ∀ x ∈ k1.drop (a + 1), Gd x := fun x hx => g1 x (List.mem_of_mem_drop hx)
    have gd2 : ∀ x ∈ k1.drop a, Gd x := fun x hx => g1 x (List.mem_of_mem_drop hx)
    have tyn := tag_yearN gk.gk
    obtain ⟨gk1, ⟨gk2, gk3⟩, ⟨gk4, gk5⟩, gk6, gk7⟩ := id gk
    by_cases hp1 : p = 1
    · subst hp1
      have rv : revTG [.tuple (k1.map (encK u))] = some (.tuple (k1.reverse.map (encK u))) := by
        show (if (k1.map (encK u)).length ≤ sizeLine then some (PyData.tuple (k1.map (encK u)).reverse) else none) = _
        rw [if_pos (size_ok (by rw [ln]; omega)), List.map_reverse]
      refine ⟨k1, k1.reverse, K1 + 2, ⟨g1, by omega⟩, ⟨fun x hx => (g1 x (List.mem_reverse.1 hx)).ge, by rw [List.length_reverse]; omega⟩, by omega, fin ?_⟩
      walk_at "st"
      walk_at "s1"
    by_cases hp2 : p = 2
    · subst hp2
      refine ⟨k1, k1.take a ++ k1.drop (a + 1) ++ [kd], K1 + 2, ⟨g1, by omega⟩, ⟨fun x hx => Gd.ge ?_, by rw [List.length_append, List.length_append, List.length_singleton]; omega⟩, by omega, fin ?_⟩
      · rw [List.mem_append, List.mem_append, List.mem_singleton] at hx
        rcases hx with (hx | hx) | rfl
        · exact gt1 x hx
        · exact gd1 x hx
        · exact gk
      · rw [List.map_append, List.map_append, List.map_cons, List.map_nil, ek]
        walk_at "st"
        walk_at "s1"
    by_cases hp3 : p = 3 ∧ ¬ kd.t = 2
    · obtain ⟨rfl, ht2⟩ := hp3
      rw [decide_eq_false ht2] at tyn
      have ty : neD (.str (tagS kd)) (.str "year") = some true := tyn
      have f1 := mu_div hu kd.a
      have f2 : fdivD (.int kd.a) (.int 2) = some (.int (kd.a / 2)) := p_fdiv (by omega) (by omega)
      have f3 : mulD (.int (kd.a / 2)) (.int u) = some (.int (u * (kd.a / 2))) := by rw [p_mul (by omega) (by omega), Int.mul_comm]
      have f4 : subD (.int (u * kd.a)) (.int (u * (kd.a / 2))) = some (.int (u * (kd.a - kd.a / 2))) := by rw [subD_int, Int.mul_sub]
      have ga : Gd ⟨kd.t, kd.a / 2, kd.b, kd.c, kd.e⟩ := ⟨gk1, ⟨by show 0 ≤ kd.a / 2; omega, by show kd.a / 2 ≤ 4; omega⟩, ⟨gk4, gk5⟩, gk6, gk7⟩
      have gb : Gd ⟨kd.t, kd.a - kd.a / 2, kd.b, kd.c, kd.e⟩ := ⟨gk1, ⟨by show 0 ≤ kd.a - kd.a / 2; omega, by show kd.a - kd.a / 2 ≤ 4; omega⟩, ⟨gk4, gk5⟩, gk6, gk7⟩
      have ea := encK_r ga.gk u
      have eb := encK_r gb.gk u
      have r1 : rstK ⟨kd.t, kd.a / 2, kd.b, kd.c, kd.e⟩ = [] := if_neg ht2
      have r2 : rstK ⟨kd.t, kd.a - kd.a / 2, kd.b, kd.c, kd.e⟩ = [] := if_neg ht2
      rw [r1] at ea
      rw [r2] at eb
      have ea' : encK u ⟨kd.t, kd.a / 2, kd.b, kd.c, kd.e⟩ = .tuple [.str (tagS kd), .int (u * (kd.a / 2)), .int (u * kd.b)] := ea
      have eb' : encK u ⟨kd.t, kd.a - kd.a / 2, kd.b, kd.c, kd.e⟩ = .tuple [.str (tagS kd), .int (u * (kd.a - kd.a / 2)), .int (u * kd.b)] := eb
      refine ⟨k1, k1.take a ++ [⟨kd.t, kd.a / 2, kd.b, kd.c, kd.e⟩, ⟨kd.t, kd.a - kd.a / 2, kd.b, kd.c, kd.e⟩] ++ k1.drop (a + 1), K1 + 2, ⟨g1, by omega⟩, ⟨fun x hx => Gd.ge ?_, by rw [List.length_append, List.length_append]; simp only [List.length_cons, List.length_nil]; omega⟩, by omega, fin ?_⟩
      · rw [List.mem_append, List.mem_append] at hx
        rcases hx with (hx | hx) | hx
        · exact gt1 x hx
        · simp only [List.mem_cons, List.not_mem_nil, or_false] at hx
          rcases hx with rfl | rfl
          · exact ga
          · exact gb
        · exact gd1 x hx
      · rw [List.map_append, List.map_append, List.map_cons, List.map_cons, List.map_nil, ea', eb']
        walk_at "st"
        walk_at "s1"
    have hp3' : (decide (p = 3) && !decide (kd.t = 2)) = false := by
      rw [Bool.and_eq_false_iff, decide_eq_false_iff_not, Bool.not_eq_false', decide_eq_true_eq]
      by_cases e : p = 3
      · exact .inr (Decidable.of_not_not fun z => hp3 ⟨e, z⟩)
      · exact .inl e
    by_cases hp4 : p = 4
    · subst hp4
      by_cases ht2 : kd.t = 2
      · rw [decide_eq_true ht2] at tyn hp3'
        have ty : neD (.str (tagS kd)) (.str "year") = some false := tyn
        have i0 : intG [.bool false] = some (.int 0) := rfl
        have me : mulE (.tuple [.tuple [.str (tagS kd), .int 0, .int u]]) (.int 0) = some (.tuple []) := rfl
        refine ⟨k1, k1.take a ++ [] ++ k1.drop a, K1 + 2, ⟨g1, by omega⟩, ⟨fun x hx => Gd.ge ?_, by rw [List.length_append, List.length_append]; simp only [List.length_nil]; omega⟩, by omega, fin ?_⟩
        · rw [List.append_nil, List.mem_append] at hx
          exact hx.elim (gt1 x) (gd2 x)
        · rw [List.map_append, List.map_append, List.map_nil]
          walk_at "st"
          walk_at "s1"
      · rw [decide_eq_false ht2] at tyn hp3'
        have ty : neD (.str (tagS kd)) (.str "year") = some true := tyn
        have i0 : intG [.bool true] = some (.int 1) := rfl
        have me : mulE (.tuple [.tuple [.str (tagS kd), .int 0, .int u]]) (.int 1) = some (.tuple [.tuple [.str (tagS kd), .int 0, .int u]]) := rfl
        have ga : Gd ⟨kd.t, 0, 1, kd.c, kd.e⟩ := ⟨gk1, ⟨Int.le_refl _, by show (0 : Int) ≤ 4; omega⟩, ⟨by show (0 : Int) ≤ 1; omega, by show (1 : Int) ≤ 3; omega⟩, gk6, gk7⟩
        have ea := encK_r ga.gk u
        have r1 : rstK ⟨kd.t, 0, 1, kd.c, kd.e⟩ = [] := if_neg ht2
        rw [r1] at ea
        have ea' : encK u ⟨kd.t, 0, 1, kd.c, kd.e⟩ = .tuple [.str (tagS kd), .int 0, .int u] := by
          rw [ea]
          show PyData.tuple [.str (tagS kd), .int (u * 0), .int (u * 1)] = _
          rw [Int.mul_zero, Int.mul_one]
        refine ⟨k1, k1.take a ++ [⟨kd.t, 0, 1, kd.c, kd.e⟩] ++ k1.drop a, K1 + 2, ⟨g1, by omega⟩, ⟨fun x hx => Gd.ge ?_, by rw [List.length_append, List.length_append]; simp only [List.length_cons, List.length_nil]; omega⟩, by omega, fin ?_⟩
        · rw [List.mem_append, List.mem_append, List.mem_singleton] at hx
          rcases hx with (hx | rfl) | hx
          · exact gt1 x hx
          · exact ga
          · exact gd2 x hx
        · rw [List.map_append, List.map_append, List.map_cons, List.map_nil, ea']
          walk_at "st"
          walk_at "s1"
    · have ga : Ge ⟨kd.t, kd.a + 1, kd.b, kd.c, kd.e⟩ := ⟨gk1, ⟨by show 0 ≤ kd.a + 1; omega, by show kd.a + 1 ≤ 5; omega⟩, ⟨gk4, gk5⟩, gk6, gk7⟩
      have ea := encK_r ga.gk u
      have ea' : encK u ⟨kd.t, kd.a + 1, kd.b, kd.c, kd.e⟩ = .tuple (.str (tagS kd) :: .int (u * kd.a + u) :: .int (u * kd.b) :: rstK kd) := by
        rw [ea]
        show PyData.tuple (.str (tagS kd) :: .int (u * (kd.a + 1)) :: .int (u * kd.b) :: rstK kd) = _
        rw [Int.mul_add, Int.mul_one]
      have rl : (rstK kd).length ≤ 2 := by unfold rstK; split <;> simp
      have q1 : slD (.tuple (.str (tagS kd) :: .int (u * kd.a) :: .int (u * kd.b) :: rstK kd)) none (some 1) = some (.tuple [.str (tagS kd)]) := sl_take (n := 1) (by simp)
      have q2 : slD (.tuple (.str (tagS kd) :: .int (u * kd.a) :: .int (u * kd.b) :: rstK kd)) (some 2) none = some (.tuple (.int (u * kd.b) :: rstK kd)) := sl_drop (n := 2)
      have q3 : addD (.tuple [.str (tagS kd)]) (.tuple [.int (u * kd.a + u)]) = some (.tuple [.str (tagS kd), .int (u * kd.a + u)]) := p_addt (by simp)
      have q4 : addD (.tuple [.str (tagS kd), .int (u * kd.a + u)]) (.tuple (.int (u * kd.b) :: rstK kd)) = some (.tuple (.str (tagS kd) :: .int (u * kd.a + u) :: .int (u * kd.b) :: rstK kd)) := p_addt (by simp; omega)
      refine ⟨k1, k1.take a ++ [⟨kd.t, kd.a + 1, kd.b, kd.c, kd.e⟩] ++ k1.drop (a + 1), K1 + 2, ⟨g1, by omega⟩, ⟨fun x hx => ?_, by rw [List.length_append, List.length_append]; simp only [List.length_cons, List.length_nil]; omega⟩, by omega, fin ?_⟩
      · rw [List.mem_append, List.mem_append, List.mem_singleton] at hx
        rcases hx with (hx | rfl) | hx
        · exact (gt1 x hx).ge
        · exact ga
        · exact (gd1 x hx).ge
      · rw [List.map_append, List.map_append, List.map_cons, List.map_nil, ea']
        walk_at "st"
        walk_at "s1"
end
section
variable {nums : List Int} {u : Int}
theorem law_amounts_ (h : InR nums) (hu : GU u) {k : Nat} (hk : k < 10000000000) (c : Store) : ∃ (ams : List Int) (k' : Nat), (∀ m ∈ ams, 1 ≤ m ∧ m ≤ 7) ∧ ams.Pairwise (· < ·) ∧ (1 ≤ ams.length ∧ ams.length ≤ 3) ∧ k' ≤ k + 4 ∧ callC F__law_amounts [.cel 0, .d (.int u)] (DSc nums k c) = .ok (.d (.tuple ((ams.map (u * ·)).map .int))) (DSc nums k' c) := by
  have hu1 := hu.1
  have hu2 := hu.2
  obtain ⟨n, hn⟩ : ∃ n : Nat, dr nums k % 3 = n := ⟨(dr nums k % 3).toNat, by omega⟩
  have d1 := drc (c := []) h (show k < 1000000000000 by omega) (k + 1) rfl
  have m1 : modD (.int (dr nums k)) (.int 3) = some (.int (n : Nat)) := by rw [p_mod (by omega), hn]
  have m2 : addD (.int 1) (.int (n : Nat)) = some (.int ((n + 1 : Nat) : Int)) := by rw [addD_int]; congr 2; omega
  obtain ⟨ds, l1, g1, c1⟩ := lc_dr (nums := nums) (c := []) (ρ := wipeS [.cel 0, .d (.int u), .no] [2]) (i := 2) (fe := (eBin mulD (eV 1) (eBin addD (eC (.int (1))) (eBin modD (eFrz (eCallC F__law_draw (aCons (eV 0) aNil))) (eC (.int (7))))))) (fun m => PyData.int (u * m)) (fun m : Int => 1 ≤ m ∧ m ≤ 7) 1 (fun j k hk => by
    have d := drc (c := []) h (show k < 1000000000000 by omega) (k + 1) rfl
    refine ⟨1 + dr nums k % 7, by omega, ?_⟩
    show _ = Res.ok (S.d (.int (u * (1 + dr nums k % 7)))) _
    have e : wipeS [.cel 0, .d (.int u), .no] [2] = [.cel 0, .d (.int u), .no] := rfl
    rw [e]
    simp only [List.set_cons_succ, List.set_cons_zero]
    walk_at "ev") (n + 1) (k + 1) (by omega) (by omega)
  have e1 : (eLc (iRng (eBin addD (eC (.int (1))) (eBin modD (eFrz (eCallC F__law_draw (aCons (eV 0) aNil))) (eC (.int (3)))))) (gtN 2) tYesM (eBin mulD (eV 1) (eBin addD (eC (.int (1))) (eBin modD (eFrz (eCallC F__law_draw (aCons (eV 0) aNil))) (eC (.int (7)))))) [2]) [.cel 0, .d (.int u), .no] (DSc nums k []) = .ok (.own (.lst (ds.map fun m => .int (u * m)))) (DSc nums (k + 1 + 1 * (n + 1)) []) := q_lc (xs := upTo 0 (n + 1)) (by walk_at "ev") c1
  obtain ⟨zs, s1, s2, s3, s4⟩ := srt_int (ns := ds.map (u * ·)) (by rw [List.length_map]; omega)
  have zz : ∀ z ∈ zs, ∃ m, (1 ≤ m ∧ m ≤ 7) ∧ z = u * m := fun z hz => by
    obtain ⟨m, hm, rfl⟩ := List.mem_map.1 ((s3 z).1 hz)
    exact ⟨m, g1 m hm, rfl⟩
  have ezs : (zs.map (· / u)).map (u * ·) = zs := by
    rw [List.map_map]
    conv => rhs; rw [← List.map_id zs]
    refine List.map_congr_left fun z hz => ?_
    obtain ⟨m, _, rfl⟩ := zz z hz
    show u * (u * m / u) = u * m
    rw [Int.mul_ediv_cancel_left _ (by omega)]
  have hne : zs ≠ [] := fun e => by
    cases ed : ds with
    | nil => rw [ed] at l1; simp at l1
    | cons d r =>
      have : u * d ∈ zs := (s3 _).2 (List.mem_map_of_mem (by rw [ed]; simp))
      rw [e] at this
      cases this
  refine ⟨zs.map (· / u), k + 1 + 1 * (n + 1), fun m hm => ?_, ?_, ⟨?_, ?_⟩, by omega, ?_⟩
  · obtain ⟨z, hz, rfl⟩ := List.mem_map.1 hm
    obtain ⟨m, h, rfl⟩ := zz z hz
    rw [Int.mul_ediv_cancel_left _ (by omega)]
    exact h
  · rw [List.pairwise_map]
    refine List.Pairwise.imp_of_mem (fun {a b} ha hb hab => ?_) s2
    obtain ⟨m, _, rfl⟩ := zz a ha
    obtain ⟨m', _, rfl⟩ := zz b hb
    rw [Int.mul_ediv_cancel_left _ (by omega), Int.mul_ediv_cancel_left _ (by omega)]
    exact Int.lt_of_mul_lt_mul_left hab (by omega)
  · rw [List.length_map]
    exact List.length_pos_iff.2 hne
  · rw [List.length_map]
    rw [List.length_map] at s4
    omega
  · rw [ezs]
    have e2 : sortedSetG [.list (ds.map fun m => PyData.int (u * m))] = some (.list (zs.map .int)) := by
      rw [List.map_map] at s1
      exact s1
    refine callC_DS rfl ?_
    unfold F__law_amounts B__law_amounts
    refine q_run (by walk_at "rep") (r := .d (.tuple (zs.map .int))) (cs1 := DSc nums (k + 1 + 1 * (n + 1)) []) ?_ rfl rfl
    walk_at "s1"
end
@[simp] theorem isnD_dict (b : List (D × D)) : isnD (.dict b) = some false := rfl
def sameN : Nat → D → D → Bool
  | _, v, .none => match v with | .none => true | _ => false
  | _, v, .int i => match v with | .int j => decide (j = i) | _ => false
  | _, v, .str x => match v with | .str y => decide (y = x) | _ => false
  | n + 1, v, .list ds => match v with | .list vs => decide (vs.length = ds.length) && (List.range ds.length).all fun k => sameN n (vs.getD k .none) (ds.getD k .none) | _ => false
  | n + 1, v, .tuple ds => match v with | .tuple vs => decide (vs.length = ds.length) && (List.range ds.length).all fun k => sameN n (vs.getD k .none) (ds.getD k .none) | _ => false
  | _, _, _ => false
theorem ix_any {W : D} {xs : List D} (hW : W = .list xs ∨ W = .tuple xs) {k : Nat} (h : k < xs.length) : ixD W (.int (k : Nat)) = some (xs.getD k .none) := by
  have e : atI xs (k : Nat) = some (xs.getD k .none) := at_nat (by simp [h])
  rcases hW with rfl | rfl <;> exact e
theorem len_any {W : D} {xs : List D} (hW : W = .list xs ∨ W = .tuple xs) : lenG [W] = some (.int (xs.length : Nat)) := by
  rcases hW with rfl | rfl <;> rfl
theorem same_lc {m : Nat} {V W : D} {vs ds : List D} (hV : V = .list vs ∨ V = .tuple vs) (hW : W = .list ds ∨ W = .tuple ds) (hl : vs.length = ds.length) (hd : ds.length ≤ 1000000) (n : Nat) (ih : ∀ k, k < ds.length → F_same m [.d (vs.getD k .none), .d (ds.getD k .none)] [] = .ok (.d (.bool (sameN n (vs.getD k .none) (ds.getD k .none)))) []) :
    eLc (iRng (eCd lenG (aCons (eV 1) aNil))) (gtN 2) (tNotM (tT (eFrz (eCall (F_same m) (aCons (eBin ixD (eV 0) (eV 2)) (aCons (eBin ixD (eV 1) (eV 2)) aNil)))))) (eV 2) [2] [.d V, .d W, .no] [] = .ok (.own (.lst (((List.range ds.length).filter fun k => !sameN n (vs.getD k .none) (ds.getD k .none)).map fun (k : Nat) => .int (k : Nat)))) [] := by
  have l1 := len_any hW
  refine q_lc (xs := upTo 0 ds.length) (q_rng (by walk_at "ev") hd) ?_
  rw [upTo_map]
  have := lc_map (tg := gtN 2) (t := tNotM (tT (eFrz (eCall (F_same m) (aCons (eBin ixD (eV 0) (eV 2)) (aCons (eBin ixD (eV 1) (eV 2)) aNil)))))) (fe := eV 2) (ρ := wipeS [.d V, .d W, .no] [2]) (cs := []) (fun (k : Nat) => PyData.int (k : Nat)) (fun k => !sameN n (vs.getD k .none) (ds.getD k .none)) (fun (k : Nat) => PyData.int (k : Nat)) (List.range ds.length) [] (fun k hk => ⟨_, rfl, by
    have hk := List.mem_range.1 hk
    have i1 := ix_any hV (k := k) (by omega)
    have i2 := ix_any hW hk
    have c := ih k hk
    walk_at "ev", fun _ => rfl⟩) (by simp; omega)
  rw [this]; simp
theorem filt_emp {n : Nat} {p : Nat → Bool} : (((List.range n).filter fun k => !p k).map fun (k : Nat) => PyData.int (k : Nat)).isEmpty = (List.range n).all p := by
  rw [List.isEmpty_map]
  cases h : (List.range n).all p with
  | true =>
    rw [List.all_eq_true] at h
    rw [List.isEmpty_iff, List.filter_eq_nil_iff]
    intro k hk
    rw [h k hk]; simp
  | false =>
    rw [List.all_eq_false] at h
    obtain ⟨k, hk, hp⟩ := h
    cases e : (List.range n).filter fun k => !p k with
    | nil =>
      rw [List.filter_eq_nil_iff] at e
      have := e k hk
      simp at this
      exact absurd this hp
    | cons a r => rfl
theorem same_run {m : Nat} {V W : D} {vs ds : List D} (hV : V = .list vs ∧ W = .list ds ∨ V = .tuple vs ∧ W = .tuple ds) (hd : ds.length ≤ 1000000) (n : Nat) (ih : ∀ k, k < ds.length → k < vs.length → F_same m [.d (vs.getD k .none), .d (ds.getD k .none)] [] = .ok (.d (.bool (sameN n (vs.getD k .none) (ds.getD k .none)))) []) :
    F_same (m + 1) [.d V, .d W] [] = .ok (.d (.bool (decide (vs.length = ds.length) && (List.range ds.length).all fun k => sameN n (vs.getD k .none) (ds.getD k .none)))) [] := by
  have hV' : V = .list vs ∨ V = .tuple vs := hV.elim (fun h => .inl h.1) (fun h => .inr h.1)
  have hW' : W = .list ds ∨ W = .tuple ds := hV.elim (fun h => .inl h.2) (fun h => .inr h.2)
  have l0 := len_any hV'
  have l1 := len_any hW'
  have ret : ∀ b, (eAndM (eCmp eqD (eCd lenG (aCons (eV 0) aNil)) (eCd lenG (aCons (eV 1) aNil))) (eCmp eqD (eFrz (eLc (iRng (eCd lenG (aCons (eV 1) aNil))) (gtN 2) (tNotM (tT (eFrz (eCall (F_same m) (aCons (eBin ixD (eV 0) (eV 2)) (aCons (eBin ixD (eV 1) (eV 2)) aNil)))))) (eV 2) [2])) (eFrz (eLst aNil)))) [.d V, .d W, .no] [] = .ok (.d (.bool b)) [] → F_same (m + 1) [.d V, .d W] [] = .ok (.d (.bool b)) [] := fun b hb => by
    unfold F_same
    refine q_run (by walk_at "rep") (r := .d (.bool b)) (cs1 := []) ?_ rfl rfl
    unfold B_same
    rcases hV with ⟨rfl, rfl⟩ | ⟨rfl, rfl⟩
    · walk_at "st"
      walk_at "s1"
    · walk_at "st"
      walk_at "s1"
  apply ret
  have e1 : eCmp eqD (eCd lenG (aCons (eV 0) aNil)) (eCd lenG (aCons (eV 1) aNil)) [.d V, .d W, .no] [] = .ok (.d (.bool (decide (vs.length = ds.length)))) [] := by
    have : decide (vs.length = ds.length) = decide (((vs.length : Nat) : Int) = ((ds.length : Nat) : Int)) := by
      by_cases h : vs.length = ds.length
      · simp [h]
      · rw [decide_eq_false h, decide_eq_false (by omega)]
    rw [this]
    walk_at "ev"
  by_cases hl : vs.length = ds.length
  · rw [decide_eq_true hl] at e1 ⊢
    refine eAnd_r e1 ?_
    have e2 := same_lc (m := m) hV' hW' hl hd n fun k hk => ih k hk (by omega)
    have e3 : eqD (.list (((List.range ds.length).filter fun k => !sameN n (vs.getD k .none) (ds.getD k .none)).map fun (k : Nat) => PyData.int (k : Nat))) (.list []) = some ((List.range ds.length).all fun k => sameN n (vs.getD k .none) (ds.getD k .none)) := by
      have sh := sh_ints (((List.range ds.length).filter fun k => !sameN n (vs.getD k .none) (ds.getD k .none)).map fun (k : Nat) => (k : Int))
      rw [List.map_map] at sh
      have := eq_nil sh
      rw [show (List.map (PyData.int ∘ fun (k : Nat) => (k : Int)) ((List.range ds.length).filter fun k => !sameN n (vs.getD k .none) (ds.getD k .none))) = ((List.range ds.length).filter fun k => !sameN n (vs.getD k .none) (ds.getD k .none)).map fun (k : Nat) => PyData.int (k : Nat) from rfl] at this
      rw [this, filt_emp]
    rw [Bool.true_and]
    walk_at "ev"
  · rw [decide_eq_false hl] at e1 ⊢
    exact eAnd_l e1
theorem same_ : ∀ (n f : Nat) (v d : D), Sm n d → n + 1 ≤ f → F_same f [.d v, .d d] [] = .ok (.d (.bool (sameN n v d))) [] := by
  intro n
  induction n with
  | zero =>
    intro f v d h hf
    obtain ⟨m, rfl⟩ : ∃ m, f = m + 1 := ⟨f - 1, by omega⟩
    cases d with
    | list xs => exact h.elim
    | tuple xs => exact h.elim
    | dict xs => exact h.elim
    | bool b => exact h.elim
    | none => cases v <;> simp [F_same, B_same, isaD, sameN]
    | int i => cases v <;> simp [F_same, B_same, isaD, sameN] <;> rfl
    | str x => cases v <;> simp [F_same, B_same, isaD, sameN] <;> first | rfl | (rename_i a; by_cases h : a = x <;> simp [h])
  | succ n ih =>
    intro f v d h hf
    obtain ⟨m, rfl⟩ : ∃ m, f = m + 1 := ⟨f - 1, by omega⟩
    cases d with
    | list ds =>
      obtain ⟨h1, h2⟩ := (show ds.length ≤ 1000000 ∧ ∀ x ∈ ds, Sm n x from h)
      cases v with
      | list vs =>
        exact same_run (.inl ⟨rfl, rfl⟩) h1 n fun k hk _ => ih m _ _ (h2 _ (by simp [hk])) (by omega)
      | _ => simp [F_same, B_same, isaD, sameN]
    | tuple ds =>
      obtain ⟨h1, h2⟩ := (show ds.length ≤ 1000000 ∧ ∀ x ∈ ds, Sm n x from h)
      cases v with
      | tuple vs =>
        exact same_run (.inr ⟨rfl, rfl⟩) h1 n fun k hk _ => ih m _ _ (h2 _ (by simp [hk])) (by omega)
      | _ => simp [F_same, B_same, isaD, sameN]
    | dict xs => exact h.elim
    | bool b => exact h.elim
    | none => cases v <;> simp [F_same, B_same, isaD, sameN]
    | int i => cases v <;> simp [F_same, B_same, isaD, sameN] <;> rfl
    | str x => cases v <;> simp [F_same, B_same, isaD, sameN] <;> first | rfl | (rename_i a; by_cases h : a = x <;> simp [h])
theorem findSome_all {α β : Type} (p : α → Bool) (r : β) : ∀ xs : List α, (xs.findSome? fun k => if p k = true then none else some r) = if xs.all p = true then none else some r
  | [] => rfl
  | x :: xs => by
    rw [List.findSome?_cons, List.all_cons]
    cases h : p x with
    | true => simp [findSome_all p r xs]
    | false => simp
theorem all_run {m : Nat} {V W : D} {vs ds : List D} (hV : V = .list vs ∨ V = .tuple vs) (hW : W = .list ds ∨ W = .tuple ds) (hl : vs.length = ds.length) (hd : ds.length ≤ 1000000) (n : Nat) (ih : ∀ k, k < ds.length → F__law_equal m [.d (vs.getD k .none), .d (ds.getD k .none)] [] = .ok (.d (.bool (sameN n (vs.getD k .none) (ds.getD k .none)))) []) :
    F__law_all_equal (m + 1) [.d V, .d W] [] = .ok (.d (.bool ((List.range ds.length).all fun k => sameN n (vs.getD k .none) (ds.getD k .none)))) [] := by
  have l1 := len_any hW
  have fr := for_ret (tg := gtN 2) (g := sIf (tNotM (tT (eFrz (eCall (F__law_equal m) (aCons (eBin ixD (eV 0) (eV 2)) (aCons (eBin ixD (eV 1) (eV 2)) aNil)))))) (sRet (eRv (eC (.bool false)))) gNil) (fun (k : Nat) => PyData.int (k : Nat)) (fun k => if sameN n (vs.getD k .none) (ds.getD k .none) = true then none else some (.d (.bool false))) (fun ρ cs => ∃ s, ρ = [.d V, .d W, s] ∧ cs = []) (List.range ds.length) [.d V, .d W, .no] [] ⟨_, rfl, rfl⟩ (fun k hk ρ cs ⟨s, e1, e2⟩ => by
    subst e1 e2
    have hk := List.mem_range.1 hk
    have i1 := ix_any hV (k := k) (by omega)
    have i2 := ix_any hW hk
    have c := ih k hk
    refine ⟨_, [], rfl, ?_⟩
    cases hs : sameN n (vs.getD k .none) (ds.getD k .none) with
    | true =>
      rw [hs] at c
      have st : (sIf (tNotM (tT (eFrz (eCall (F__law_equal m) (aCons (eBin ixD (eV 0) (eV 2)) (aCons (eBin ixD (eV 1) (eV 2)) aNil)))))) (sRet (eRv (eC (.bool false)))) gNil) [.d V, .d W, .d (.int (k : Nat))] [] = .nx [.d V, .d W, .d (.int (k : Nat))] [] := by walk_at "s1"
      exact ⟨_, .inl st, _, rfl, rfl⟩
    | false =>
      rw [hs] at c
      have st : (sIf (tNotM (tT (eFrz (eCall (F__law_equal m) (aCons (eBin ixD (eV 0) (eV 2)) (aCons (eBin ixD (eV 1) (eV 2)) aNil)))))) (sRet (eRv (eC (.bool false)))) gNil) [.d V, .d W, .d (.int (k : Nat))] [] = .rt (.d (.bool false)) [] := by walk_at "s1"
      exact ⟨st, [.d V, .d W, .no], _, rfl, rfl⟩)
  rw [findSome_all] at fr
  rw [← upTo_map] at fr
  unfold F__law_all_equal
  cases ha : (List.range ds.length).all fun k => sameN n (vs.getD k .none) (ds.getD k .none) with
  | true =>
    rw [ha, if_pos rfl] at fr
    obtain ⟨cs2, ρ2, f1, s, rfl, rfl⟩ := fr
    refine q_run (by walk_at "rep") (r := .d (.bool true)) (cs1 := []) ?_ rfl rfl
    unfold B__law_all_equal
    walk_at "st"
    walk_at "s1"
  | false =>
    rw [ha, if_neg (by simp)] at fr
    obtain ⟨cs2, f1, _, s, _, rfl⟩ := fr
    refine q_run (by walk_at "rep") (r := .d (.bool false)) (cs1 := []) ?_ rfl rfl
    unfold B__law_all_equal
    walk_at "s1"
theorem equal_run {m : Nat} {V W : D} {vs ds : List D} (hV : V = .list vs ∧ W = .list ds ∨ V = .tuple vs ∧ W = .tuple ds) (hd : ds.length ≤ 1000000) (n : Nat) (ih : ∀ k, k < ds.length → k < vs.length → F__law_equal m [.d (vs.getD k .none), .d (ds.getD k .none)] [] = .ok (.d (.bool (sameN n (vs.getD k .none) (ds.getD k .none)))) []) :
    F__law_equal (m + 2) [.d V, .d W] [] = .ok (.d (.bool (decide (vs.length = ds.length) && (List.range ds.length).all fun k => sameN n (vs.getD k .none) (ds.getD k .none)))) [] := by
  have hV' : V = .list vs ∨ V = .tuple vs := hV.elim (fun h => .inl h.1) (fun h => .inr h.1)
  have hW' : W = .list ds ∨ W = .tuple ds := hV.elim (fun h => .inl h.2) (fun h => .inr h.2)
  have l0 := len_any hV'
  have l1 := len_any hW'
  unfold F__law_equal
  by_cases hl : vs.length = ds.length
  · have c := all_run hV' hW' hl hd n fun k hk => ih k hk (by omega)
    have hl' : ((vs.length : Nat) : Int) = ((ds.length : Nat) : Int) := by omega
    have ne : neD (.int (vs.length : Nat)) (.int (ds.length : Nat)) = some false := by rw [p_nei, decide_eq_false (by omega)]
    rw [decide_eq_true hl, Bool.true_and]
    refine q_run (by walk_at "rep") (r := .d (.bool ((List.range ds.length).all fun k => sameN n (vs.getD k .none) (ds.getD k .none)))) (cs1 := []) ?_ rfl rfl
    generalize (List.range ds.length).all (fun k => sameN n (vs.getD k .none) (ds.getD k .none)) = b at *
    unfold B__law_equal
    rcases hV with ⟨rfl, rfl⟩ | ⟨rfl, rfl⟩
    · walk_at "st"
      walk_at "s1"
    · walk_at "st"
      walk_at "s1"
  · have ne : neD (.int (vs.length : Nat)) (.int (ds.length : Nat)) = some true := by rw [p_nei, decide_eq_true (by omega)]
    rw [decide_eq_false hl, Bool.false_and]
    refine q_run (by walk_at "rep") (r := .d (.bool false)) (cs1 := []) ?_ rfl rfl
    unfold B__law_equal
    rcases hV with ⟨rfl, rfl⟩ | ⟨rfl, rfl⟩
    · walk_at "st"
      walk_at "s1"
    · walk_at "st"
      walk_at "s1"
theorem equal_ : ∀ (n f : Nat) (v d : D), Sm n d → 2 * n + 1 ≤ f → F__law_equal f [.d v, .d d] [] = .ok (.d (.bool (sameN n v d))) [] := by
  intro n
  induction n with
  | zero =>
    intro f v d h hf
    obtain ⟨m, rfl⟩ : ∃ m, f = m + 1 := ⟨f - 1, by omega⟩
    cases d with
    | list xs => exact h.elim
    | tuple xs => exact h.elim
    | dict xs => exact h.elim
    | bool b => exact h.elim
    | none => cases v <;> simp [F__law_equal, B__law_equal, isaD, sameN]
    | int i => cases v <;> simp [F__law_equal, B__law_equal, isaD, sameN] <;> rfl
    | str x => cases v <;> simp [F__law_equal, B__law_equal, isaD, sameN] <;> first | rfl | (rename_i a; by_cases h : a = x <;> simp [h])
  | succ n ih =>
    intro f v d h hf
    obtain ⟨m, rfl⟩ : ∃ m, f = m + 2 := ⟨f - 2, by omega⟩
    cases d with
    | list ds =>
      obtain ⟨h1, h2⟩ := (show ds.length ≤ 1000000 ∧ ∀ x ∈ ds, Sm n x from h)
      cases v with
      | list vs =>
        exact equal_run (.inl ⟨rfl, rfl⟩) h1 n fun k hk _ => ih m _ _ (h2 _ (by simp [hk])) (by omega)
      | _ => simp [F__law_equal, B__law_equal, isaD, sameN]
    | tuple ds =>
      obtain ⟨h1, h2⟩ := (show ds.length ≤ 1000000 ∧ ∀ x ∈ ds, Sm n x from h)
      cases v with
      | tuple vs =>
        exact equal_run (.inr ⟨rfl, rfl⟩) h1 n fun k hk _ => ih m _ _ (h2 _ (by simp [hk])) (by omega)
      | _ => simp [F__law_equal, B__law_equal, isaD, sameN]
    | dict xs => exact h.elim
    | bool b => exact h.elim
    | none => cases v <;> simp [F__law_equal, B__law_equal, isaD, sameN]
    | int i => cases v <;> simp [F__law_equal, B__law_equal, isaD, sameN] <;> rfl
    | str x => cases v <;> simp [F__law_equal, B__law_equal, isaD, sameN] <;> first | rfl | (rename_i a; by_cases h : a = x <;> simp [h])
theorem equal_bool (f : Nat) (a b : Bool) : F__law_equal (f + 1) [.d (.bool a), .d (.bool b)] [] = .ok (.d (.bool (a == b))) [] := by
  simp [F__law_equal, B__law_equal, isaD]
theorem sameN_refl {n : Nat} {d : D} (h : Sm n d) : sameN n d d = true := by
  have a := equal_ n (2 * n + 1) d d h (Nat.le_refl _)
  have b := equal_sm n (2 * n + 1) d h (Nat.le_refl _)
  rw [a] at b
  injection b with b
  injection b with b
  injection b with b
theorem q_sub {fo fi fe : List S → M S} {ρ : List S} {cs cs1 cs2 : Store} {x : D} {xs : List D} {k : Int} {j m : Nat} (he : fe ρ cs = .ok (.d x) cs1) (ho : fo ρ cs1 = .ok (.cel j) cs1) (hi : fi ρ cs1 = .ok (.d (.int k)) cs1) (hc : cs1[j]? = some (.lst xs)) (hk : ixN xs.length k = some m) (e : cs1.set j (.lst (xs.set m x)) = cs2) : sSub fo fi fe ρ cs = .nx ρ cs2 := by rw [← e]; exact sub_c he ho hi hc hk
theorem slL_take {xs : List D} {n : Nat} : slD (.list xs) none (some (n : Int)) = some (.list (xs.take n)) := by
  rw [slD_list, cutD_to]
theorem slL_drop {xs : List D} {n : Nat} : slD (.list xs) (some (n : Int)) none = some (.list (xs.drop n)) := by
  rw [slD_list, cutD_from]
section
variable {nums : List Int}
local macro_rules | `(tactic| walk_at "s1") => `(tactic| ((with_reducible apply q_sub); (· walk_at "ev"); (· walk_at "ev"); (· walk_at "ev"); (· first | with_reducible assumption | exact rfl); (· with_reducible assumption); (· exact rfl)))
theorem spoilt_ (h : InR nums) {k : Nat} (hk : k < 10000000000) {E : List (List Int)} (h0 : E ≠ []) (hE : E.length ≤ 5000) (hq : ∀ q ∈ E, q.length ≤ 100) : ∃ (r : Rv) (k' : Nat), ((∃ V, r = .d V) ∨ ∃ xs, r = .own (.lst xs)) ∧ k' ≤ k + 3 ∧ F__law_spoilt [.cel 0, .d (.list (E.map tupI))] (DSc nums k []) = .ok r (DSc nums k' []) := by
  have lE : (E.map tupI).length = E.length := List.length_map _
  have pE : 0 < E.length := List.length_pos_iff.2 h0
  obtain ⟨a, ha⟩ : ∃ a : Nat, dr nums k % (((E.map tupI).length : Nat) : Int) = a := ⟨(dr nums k % (((E.map tupI).length : Nat) : Int)).toNat, by have := Int.emod_nonneg (dr nums k) (b := (((E.map tupI).length : Nat) : Int)) (by omega); omega⟩
  have hal : a < E.length := by
    have := Int.emod_lt_of_pos (dr nums k) (show 0 < (((E.map tupI).length : Nat) : Int) by omega)
    rw [ha, lE] at this
    omega
  have d1 := drc (c := [.lst (E.map tupI)]) h (show k < 1000000000000 by omega) (k + 1) rfl
  have d2 := drc (c := [.lst (E.map tupI)]) h (show k + 1 < 1000000000000 by omega) (k + 2) rfl
  have d3 := drc (c := [.lst (E.map tupI)]) h (show k + 2 < 1000000000000 by omega) (k + 3) rfl
  have m1 : modD (.int (dr nums k)) (.int ((E.map tupI).length : Nat)) = some (.int (a : Nat)) := by rw [p_mod (by omega), ha]
  have m2 : modD (.int (dr nums (k + 1))) (.int 9) = some (.int (dr nums (k + 1) % 9)) := p_mod (by omega)
  have m3 : modD (.int (dr nums (k + 2))) (.int 5) = some (.int (dr nums (k + 2) % 5)) := p_mod (by omega)
  have pb : 0 ≤ dr nums (k + 1) % 9 ∧ dr nums (k + 1) % 9 ≤ 8 := by omega
  have tb : 0 ≤ dr nums (k + 2) % 5 ∧ dr nums (k + 2) % 5 ≤ 4 := by omega
  generalize dr nums (k + 1) % 9 = p at *
  generalize dr nums (k + 2) % 5 = t at *
  have nw : sNew 1 (eOwnL (eV 1)) [.cel 0, .d (.list (E.map tupI)), .no, .no] (DSc nums k []) = .nx [.cel 0, .cel 1, .no, .no] (DSc nums k [.lst (E.map tupI)]) := sNew_lst (o := .lst (E.map tupI)) (cs' := DSc nums k []) (q_ownL (q_v rfl) w_d rfl) rfl
  generalize hqa : E[a] = q at *
  have hql : q.length ≤ 100 := by rw [← hqa]; exact hq _ (List.getElem_mem hal)
  have at1 : atI (E.map tupI) (a : Nat) = some (.tuple (q.map .int)) := by rw [at_map tupI hal, hqa]; rfl
  have ixn : ixN (E.map tupI).length (a : Nat) = some a := by
    rw [lE]
    unfold ixN
    simp
    omega
  generalize E.map tupI = L at *
  have e2 : ((a : Nat) : Int) + 1 = ((a + 1 : Nat) : Int) := by omega
  have s1 : slD (.list L) none (some (a : Nat)) = some (.list (L.take a)) := slL_take
  have s2 : slD (.list L) (some ((a : Nat) + 1)) none = some (.list (L.drop (a + 1))) := by rw [e2]; exact slL_drop
  have s3 : slD (.list L) (some (a : Nat)) none = some (.list (L.drop a)) := slL_drop
  have s4 : slD (.list L) (some (a : Nat)) (some ((a : Nat) + 1)) = some (.list (cutD L (some (a : Nat)) (some ((a : Nat) + 1)))) := rfl
  have lt : (L.take a).length ≤ 5000 := by rw [List.length_take]; omega
  have ld : (L.drop a).length ≤ 5000 := by rw [List.length_drop]; omega
  have ld1 : (L.drop (a + 1)).length ≤ 5000 := by rw [List.length_drop]; omega
  have lc : (cutD L (some (a : Nat)) (some ((a : Nat) + 1))).length ≤ 5000 := by
    unfold cutD
    rw [List.length_take, List.length_drop]
    omega
  have rt : ∀ (V : D) (j : Nat), (gSeq (sNew 1 (eOwnL (eV 1)))
    (gSeq (sSet 2 (eBin modD (eFrz (eCallC F__law_draw (aCons (eV 0) aNil))) (eCd lenG (aCons (eV 1) aNil))))
    (gSeq (sSet 3 (eBin modD (eFrz (eCallC F__law_draw (aCons (eV 0) aNil))) (eC (.int (9)))))
    (gSeq (sIf (op2 eqD (eV 3) (eC (.int (0)))) (sRet (eRv (eBin addD (eSl (eV 1) oNone (oSome (eV 2))) (eSl (eV 1) (oSome (eBin addD (eV 2) (eC (.int (1))))) oNone)))) gNil)
    (gSeq (sIf (op2 eqD (eV 3) (eC (.int (1)))) (sRet (eRv (eBin addD (eBin addD (eSl (eV 1) oNone (oSome (eV 2))) (eSl (eV 1) (oSome (eV 2)) (oSome (eBin addD (eV 2) (eC (.int (1))))))) (eSl (eV 1) (oSome (eV 2)) oNone)))) gNil)
    (gSeq (sIf (op2 eqD (eV 3) (eC (.int (2)))) (sRet (eRv (eCd revG (aCons (eV 1) aNil)))) gNil)
    (gSeq (sIf (op2 eqD (eV 3) (eC (.int (3)))) (sRet (eRv (eCd tupleG (aCons (eV 1) aNil)))) gNil)
    (gSeq (sIf (tAndM (op2 eqD (eV 3) (eC (.int (4)))) (op2 gtD (eCd lenG (aCons (eBin ixD (eV 1) (eV 2)) aNil)) (eC (.int (0))))) (sSub (eV 1) (eV 2) (eBin addD (eSl (eBin ixD (eV 1) (eV 2)) oNone (oSome (eNeg (eC (.int (1)))))) (eTup (aCons (eBin addD (eBin ixD (eBin ixD (eV 1) (eV 2)) (eBin subD (eCd lenG (aCons (eBin ixD (eV 1) (eV 2)) aNil)) (eC (.int (1))))) (eC (.int (1)))) aNil)))) gNil)
    (gSeq (sIf (op2 eqD (eV 3) (eC (.int (5)))) (sRet (eRv (eBin ixD (eFrz (eLst (aCons (eC .none) (aCons (eC (.int (5))) (aCons (eFrz (eLst aNil)) (aCons (eFrz (eLst (aCons (eFrz (eLst aNil)) aNil))) (aCons eDicE aNil))))))) (eBin modD (eFrz (eCallC F__law_draw (aCons (eV 0) aNil))) (eC (.int (5))))))) gNil)
    (gSeq (sIf (op2 eqD (eV 3) (eC (.int (6)))) (sSub (eV 1) (eV 2) (eCd listG (aCons (eBin ixD (eV 1) (eV 2)) aNil))) gNil)
    (gSeq (sIf (tAndM (op2 eqD (eV 3) (eC (.int (7)))) (op2 gtD (eCd lenG (aCons (eBin ixD (eV 1) (eV 2)) aNil)) (eC (.int (0))))) (sSub (eV 1) (eV 2) (eBin addD (eTup (aCons (eCd boolG (aCons (eBin ixD (eBin ixD (eV 1) (eV 2)) (eC (.int (0)))) aNil)) aNil)) (eSl (eBin ixD (eV 1) (eV 2)) (oSome (eC (.int (1)))) oNone))) gNil)
    (sRet (eRv (eV 1)))))))))))))) [.cel 0, .d (.list L), .no, .no] (DSc nums k []) = .rt (.d V) (DSc nums j [.lst L]) → F__law_spoilt [.cel 0, .d (.list L)] (DSc nums k []) = .ok (.d V) (DSc nums j []) := fun V j hb => by
    unfold F__law_spoilt B__law_spoilt
    exact q_run (by walk_at "rep") hb rfl rfl
  have rtc : ∀ (xs : List D) (j : Nat), (gSeq (sNew 1 (eOwnL (eV 1)))
    (gSeq (sSet 2 (eBin modD (eFrz (eCallC F__law_draw (aCons (eV 0) aNil))) (eCd lenG (aCons (eV 1) aNil))))
    (gSeq (sSet 3 (eBin modD (eFrz (eCallC F__law_draw (aCons (eV 0) aNil))) (eC (.int (9)))))
    (gSeq (sIf (op2 eqD (eV 3) (eC (.int (0)))) (sRet (eRv (eBin addD (eSl (eV 1) oNone (oSome (eV 2))) (eSl (eV 1) (oSome (eBin addD (eV 2) (eC (.int (1))))) oNone)))) gNil)
    (gSeq (sIf (op2 eqD (eV 3) (eC (.int (1)))) (sRet (eRv (eBin addD (eBin addD (eSl (eV 1) oNone (oSome (eV 2))) (eSl (eV 1) (oSome (eV 2)) (oSome (eBin addD (eV 2) (eC (.int (1))))))) (eSl (eV 1) (oSome (eV 2)) oNone)))) gNil)
    (gSeq (sIf (op2 eqD (eV 3) (eC (.int (2)))) (sRet (eRv (eCd revG (aCons (eV 1) aNil)))) gNil)
    (gSeq (sIf (op2 eqD (eV 3) (eC (.int (3)))) (sRet (eRv (eCd tupleG (aCons (eV 1) aNil)))) gNil)
    (gSeq (sIf (tAndM (op2 eqD (eV 3) (eC (.int (4)))) (op2 gtD (eCd lenG (aCons (eBin ixD (eV 1) (eV 2)) aNil)) (eC (.int (0))))) (sSub (eV 1) (eV 2) (eBin addD (eSl (eBin ixD (eV 1) (eV 2)) oNone (oSome (eNeg (eC (.int (1)))))) (eTup (aCons (eBin addD (eBin ixD (eBin ixD (eV 1) (eV 2)) (eBin subD (eCd lenG (aCons (eBin ixD (eV 1) (eV 2)) aNil)) (eC (.int (1))))) (eC (.int (1)))) aNil)))) gNil)
    (gSeq (sIf (op2 eqD (eV 3) (eC (.int (5)))) (sRet (eRv (eBin ixD (eFrz (eLst (aCons (eC .none) (aCons (eC (.int (5))) (aCons (eFrz (eLst aNil)) (aCons (eFrz (eLst (aCons (eFrz (eLst aNil)) aNil))) (aCons eDicE aNil))))))) (eBin modD (eFrz (eCallC F__law_draw (aCons (eV 0) aNil))) (eC (.int (5))))))) gNil)
    (gSeq (sIf (op2 eqD (eV 3) (eC (.int (6)))) (sSub (eV 1) (eV 2) (eCd listG (aCons (eBin ixD (eV 1) (eV 2)) aNil))) gNil)
    (gSeq (sIf (tAndM (op2 eqD (eV 3) (eC (.int (7)))) (op2 gtD (eCd lenG (aCons (eBin ixD (eV 1) (eV 2)) aNil)) (eC (.int (0))))) (sSub (eV 1) (eV 2) (eBin addD (eTup (aCons (eCd boolG (aCons (eBin ixD (eBin ixD (eV 1) (eV 2)) (eC (.int (0)))) aNil)) aNil)) (eSl (eBin ixD (eV 1) (eV 2)) (oSome (eC (.int (1)))) oNone))) gNil)
    (sRet (eRv (eV 1)))))))))))))) [.cel 0, .d (.list L), .no, .no] (DSc nums k []) = .rt (.cel 1) (DSc nums j [.lst xs]) → F__law_spoilt [.cel 0, .d (.list L)] (DSc nums k []) = .ok (.own (.lst xs)) (DSc nums j []) := fun xs j hb => by
    unfold F__law_spoilt B__law_spoilt
    exact q_run (by walk_at "rep") hb rfl rfl
  by_cases p0 : p = 0
  · subst p0
    refine ⟨.d (.list (L.take a ++ L.drop (a + 1))), k + 2, .inl ⟨_, rfl⟩, by omega, rt _ _ ?_⟩
    walk_at "st"
    walk_at "s1"
  by_cases p1 : p = 1
  · subst p1
    refine ⟨.d (.list (L.take a ++ cutD L (some (a : Nat)) (some ((a : Nat) + 1)) ++ L.drop a)), k + 2, .inl ⟨_, rfl⟩, by omega, rt _ _ ?_⟩
    walk_at "st"
    walk_at "s1"
  by_cases p2 : p = 2
  · subst p2
    have rv : revG [.list L] = some (.list L.reverse) := if_pos (size_ok (by omega))
    refine ⟨.d (.list L.reverse), k + 2, .inl ⟨_, rfl⟩, by omega, rt _ _ ?_⟩
    walk_at "st"
    walk_at "s1"
  by_cases p3 : p = 3
  · subst p3
    refine ⟨.d (.tuple L), k + 2, .inl ⟨_, rfl⟩, by omega, rt _ _ ?_⟩
    walk_at "st"
    walk_at "s1"
  by_cases p5 : p = 5
  · subst p5
    have tc : t = 0 ∨ t = 1 ∨ t = 2 ∨ t = 3 ∨ t = 4 := by omega
    have go : ∀ V, atI [PyData.none, .int 5, .list [], .list [.list []], .dict []] t = some V → ∃ (r : Rv) (k' : Nat), ((∃ V, r = .d V) ∨ ∃ xs, r = .own (.lst xs)) ∧ k' ≤ k + 3 ∧ F__law_spoilt [.cel 0, .d (.list L)] (DSc nums k []) = .ok r (DSc nums k' []) := fun V hV => by
      have hde : ∀ (ρ : List S) (cs : Store), eDicE ρ cs = .ok (.d (.dict [])) cs := fun _ _ => rfl
      refine ⟨.d V, k + 3, .inl ⟨_, rfl⟩, by omega, rt _ _ ?_⟩
      have hd1 := hde [.cel 0, .cel 1, .d (.int (a : Nat)), .d (.int 5)] (DSc nums (k + 2) [.lst L])
      walk_at "st"
      walk_at "s1"
    rcases tc with rfl | rfl | rfl | rfl | rfl
    · exact go _ (atI0 _ _)
    · exact go _ (atI1 _ _ _)
    · exact go _ (atI2 _ _ _ _)
    · exact go _ (atI3 _ _ _ _ _)
    · exact go _ (atI4 _ _ _ _ _ _)
  have hd1 : ∀ (ρ : List S) (j : Nat) (x : OC), (DSc nums j [.lst L]).set 1 x = DSc nums j [x] := fun _ _ _ => rfl
  by_cases p6 : p = 6
  · subst p6
    refine ⟨.own (.lst (L.set a (.list (q.map .int)))), k + 2, .inr ⟨_, rfl⟩, by omega, rtc _ _ ?_⟩
    walk_at "st"
    walk_at "end"
  by_cases p4 : p = 4 ∧ 0 < q.length
  · obtain ⟨rfl, q0⟩ := p4
    have q0' : (0 : Int) < (((q.map PyData.int).length : Nat) : Int) := by rw [List.length_map]; omega
    have q1 : ∃ z, slD (.tuple (q.map .int)) none (some (-1)) = some (.tuple z) ∧ z.length ≤ 100 := ⟨cutD (q.map .int) none (some (-1)), rfl, by
      unfold cutD
      rw [List.length_take, List.length_drop, List.length_map]
      omega⟩
    obtain ⟨z, q1, zl⟩ := q1
    have ng : negD (.int 1) = some (.int (-1)) := rfl
    have q2 : atI (q.map PyData.int) ((((q.map PyData.int).length : Nat) : Int) - 1) = some (.int (q[q.length - 1]'(by omega))) := by
      rw [show ((((q.map PyData.int).length : Nat) : Int) - 1) = ((q.length - 1 : Nat) : Int) by rw [List.length_map]; omega]
      exact at_map PyData.int (by omega)
    refine ⟨.own (.lst (L.set a (.tuple (z ++ [.int (q[q.length - 1]'(by omega) + 1)])))), k + 2, .inr ⟨_, rfl⟩, by omega, rtc _ _ ?_⟩
    walk_at "st"
    walk_at "end"
  by_cases p7 : p = 7 ∧ 0 < q.length
  · obtain ⟨rfl, q0⟩ := p7
    have q0' : (0 : Int) < (((q.map PyData.int).length : Nat) : Int) := by rw [List.length_map]; omega
    cases q with
    | nil => simp at q0
    | cons x q =>
      have b1 : boolG [.int x] = some (.bool (x != 0)) := rfl
      have q2 : slD (.tuple ((x :: q).map .int)) (some 1) none = some (.tuple (q.map .int)) := sl_drop (n := 1)
      have ql : (q.map PyData.int).length ≤ 100 := by rw [List.length_map]; simp at hql; omega
      refine ⟨.own (.lst (L.set a (.tuple ([.bool (x != 0)] ++ q.map .int)))), k + 2, .inr ⟨_, rfl⟩, by omega, rtc _ _ ?_⟩
      simp only [List.map_cons] at at1 q2 q0'
      walk_at "st"
      walk_at "end"
  · have f4 : (decide (p = 4) && decide ((0 : Int) < (((q.map PyData.int).length : Nat) : Int))) = false := by
      rw [Bool.and_eq_false_iff, decide_eq_false_iff_not, decide_eq_false_iff_not, List.length_map]
      by_cases e : p = 4
      · exact .inr fun z => p4 ⟨e, by omega⟩
      · exact .inl e
    have f7 : (decide (p = 7) && decide ((0 : Int) < (((q.map PyData.int).length : Nat) : Int))) = false := by
      rw [Bool.and_eq_false_iff, decide_eq_false_iff_not, decide_eq_false_iff_not, List.length_map]
      by_cases e : p = 7
      · exact .inr fun z => p7 ⟨e, by omega⟩
      · exact .inl e
    refine ⟨.own (.lst L), k + 2, .inr ⟨_, rfl⟩, by omega, rtc _ _ ?_⟩
    walk_at "st"
    walk_at "s1"
end
theorem perm_le {α : Type} {le : α → α → Prop} : ∀ {l m : List α}, l.Perm m → l.Pairwise le → m.Pairwise le → (∀ a ∈ l, ∀ b ∈ l, le a b → le b a → a = b) → l = m
  | [], m, p, _, _, _ => (List.nil_perm.1 p).symm ▸ rfl
  | a :: l, [], p, _, _, _ => by have := p.length_eq; simp at this
  | a :: l, b :: m, p, h1, h2, anti => by
    rw [List.pairwise_cons] at h1 h2
    have e : a = b := by
      have ha : a ∈ b :: m := p.mem_iff.1 List.mem_cons_self
      have hb : b ∈ a :: l := p.mem_iff.2 List.mem_cons_self
      rcases List.mem_cons.1 ha with e | ha
      · exact e
      · rcases List.mem_cons.1 hb with e | hb'
        · exact e.symm
        · exact anti a List.mem_cons_self b hb (h1.1 b hb') (h2.1 a ha)
    subst e
    rw [perm_le (List.Perm.cons_inv p) h1.2 h2.2 fun x hx y hy => anti x (List.mem_cons_of_mem _ hx) y (List.mem_cons_of_mem _ hy)]
section
open PySem.W PyProof.Rows
def tks (a : D) : List (Int ⊕ List Nat) := keyToks a
theorem le_lex (a b : D) : dataLe false id a b = !lexLt itemOrd (tks b) (tks a) := by
  rw [dataLe_eq]; rfl
theorem le_tr (a b c : D) (h1 : dataLe false id a b = true) (h2 : dataLe false id b c = true) : dataLe false id a c = true := by
  rw [le_lex] at *
  simp only [Bool.not_eq_true'] at *
  cases e : lexLt itemOrd (tks c) (tks a) with
  | false => rfl
  | true =>
    rcases lex_negTrans _ (tks b) _ e with z | z
    · rw [h2] at z; cases z
    · rw [h1] at z; cases z
theorem le_tot (a b : D) : (dataLe false id a b || dataLe false id b a) = true := by
  rw [le_lex, le_lex]
  cases e : lexLt itemOrd (tks b) (tks a) with
  | false => rfl
  | true =>
    cases e2 : lexLt itemOrd (tks a) (tks b) with
    | false => rfl
    | true =>
      have := lex_trans _ _ _ e e2
      rw [lex_irrefl] at this
      cases this
theorem tks_inj : ∀ {xs ys : List Int}, keyToksAll (xs.map .int) = keyToksAll (ys.map .int) → xs = ys
  | [], [], _ => rfl
  | [], y :: ys, h => by simp [keyToksAll] at h
  | x :: xs, [], h => by simp [keyToksAll] at h
  | x :: xs, y :: ys, h => by
    simp only [List.map_cons, keyToksAll, keyToks, List.cons_append, List.nil_append, List.cons.injEq, Sum.inl.injEq, true_and] at h
    rw [h.1, tks_inj h.2]
theorem le_anti {xs ys : List Int} (h1 : dataLe false id (tupI xs) (tupI ys) = true) (h2 : dataLe false id (tupI ys) (tupI xs) = true) : tupI xs = tupI ys := by
  rw [le_lex] at h1 h2
  simp only [Bool.not_eq_true'] at h1 h2
  have e := lex_total _ _ h2 h1
  have : keyToksAll (xs.map .int) = keyToksAll (ys.map .int) := e
  rw [tks_inj this]
theorem sortDt_perm {L M : List (List Int)} (p : L.Perm M) : sortDt (L.map tupI) = sortDt (M.map tupI) := by
  have p2 : (sortDt (L.map tupI)).Perm (sortDt (M.map tupI)) := ((List.mergeSort_perm _ _).trans (p.map tupI)).trans (List.mergeSort_perm _ _).symm
  refine perm_le (le := fun a b => dataLe false id a b = true) p2 (List.pairwise_mergeSort (fun a b c => le_tr a b c) (fun a b => le_tot a b) _) (List.pairwise_mergeSort (fun a b c => le_tr a b c) (fun a b => le_tot a b) _) fun a ha b hb h1 h2 => ?_
  obtain ⟨x, _, rfl⟩ := List.mem_map.1 ((List.mergeSort_perm _ _).mem_iff.1 ha)
  obtain ⟨y, _, rfl⟩ := List.mem_map.1 ((List.mergeSort_perm _ _).mem_iff.1 hb)
  exact le_anti h1 h2
end
theorem cls_of {k1 k2 : List Kd} {ams : List Int} {Q : List (List Int × List (Int × Int))} (h : bfsA (stp0 (lyn k1) (lyn k2)) (prs0 ams) 4000 0 [(List.replicate ((lyn k1).length + (lyn k2).length) 0, [])] = some (.inr Q)) : ClsT (lyn k1) (lyn k2) ams (Q.map Prod.fst) ∧ (Q.map Prod.fst).length < 4000 := by
  have e := bfsA_S h
  obtain ⟨c1, c2, c3⟩ := bfsS_closed _ _ 4000 0 _ _ e (fun j s hj => by omega)
  refine ⟨⟨fun s hs m hm => ?_, c2 _ (by simp), by omega⟩, by omega⟩
  have hm' : m ∈ prs0 ams := by
    unfold prs at hm
    obtain ⟨a, h1, h2⟩ := List.mem_flatMap.1 hm
    unfold prs0
    refine List.mem_flatMap.2 ⟨a, h1, ?_⟩
    simp only [List.mem_cons, List.not_mem_nil, or_false] at h2 ⊢
    exact h2.symm
  exact c1 s hs m hm'
theorem prs_0 {ams : List Int} {m : Int × Int} (h : m ∈ prs0 ams) : m ∈ prs ams := by
  unfold prs0 at h
  obtain ⟨a, h1, h2⟩ := List.mem_flatMap.1 h
  unfold prs
  refine List.mem_flatMap.2 ⟨a, h1, ?_⟩
  simp only [List.mem_cons, List.not_mem_nil, or_false] at h2 ⊢
  exact h2.symm
/-- both walks come to the same standings -/
theorem same_set {T1 T2 : List Ly} {ams : List Int} {Q Q' : List (List Int × List (Int × Int))} (h : bfsA (stp0 T1 T2) (prs0 ams) 4000 0 [(List.replicate (T1.length + T2.length) 0, [])] = some (.inr Q)) (h' : bfsA (stp2 T1 T2) (prs ams) 5000 0 [(List.replicate (T1.length + T2.length) 0, [])] = some (.inr Q')) : (Q'.map Prod.fst).Perm (Q.map Prod.fst) := by
  have e := bfsA_S h
  have e' := bfsA_S h'
  obtain ⟨c1, c2, _⟩ := bfsS_closed _ _ 4000 0 _ _ e (fun j s hj => by omega)
  obtain ⟨d1, d2, _⟩ := bfsS_closed _ _ 5000 0 _ _ e' (fun j s hj => by omega)
  have cp : ∀ m ∈ prs ams, m ∈ prs0 ams := fun m hm => by
    unfold prs at hm
    obtain ⟨a, h1, h2⟩ := List.mem_flatMap.1 hm
    unfold prs0
    refine List.mem_flatMap.2 ⟨a, h1, ?_⟩
    simp only [List.mem_cons, List.not_mem_nil, or_false] at h2 ⊢
    exact h2.symm
  have n1 : (Q.map Prod.fst).Nodup := by
    obtain ⟨R, r1, r2, _⟩ := bfsS_total _ (prs0 ams) (R := Q.map Prod.fst) c1 4000 0 [List.replicate (T1.length + T2.length) 0] (by simp) (fun x hx => by rw [List.mem_singleton] at hx; rw [hx]; exact c2 _ (by simp)) (by omega) (Nat.zero_le _)
    rw [show bfsS (fun s m => (stp0 T1 T2 s m).1) (prs0 ams) 4000 0 [List.replicate (T1.length + T2.length) 0] = some (Q.map Prod.fst) from e] at r1
    cases r1
    exact r2
  have n2 : (Q'.map Prod.fst).Nodup := by
    obtain ⟨R, r1, r2, _⟩ := bfsS_total _ (prs ams) (R := Q'.map Prod.fst) d1 5000 0 [List.replicate (T1.length + T2.length) 0] (by simp) (fun x hx => by rw [List.mem_singleton] at hx; rw [hx]; exact d2 _ (by simp)) (by omega) (Nat.zero_le _)
    rw [show bfsS (fun s m => (stp2 T1 T2 s m).1) (prs ams) 5000 0 [List.replicate (T1.length + T2.length) 0] = some (Q'.map Prod.fst) from e'] at r1
    cases r1
    exact r2
  refine (List.perm_ext_iff_of_nodup n2 n1).2 fun a => ⟨fun ha => ?_, fun ha => ?_⟩
  · exact bfsS_all (f := fun s m => (stp2 T1 T2 s m).1) (· ∈ Q.map Prod.fst) (fun s hs m hm => c1 s hs m (cp m hm)) e' (fun s hs => by
      rw [List.map_cons, List.map_nil, List.mem_singleton] at hs
      rw [hs]
      exact c2 _ (by simp)) a ha
  · exact bfsS_all (f := fun s m => (stp0 T1 T2 s m).1) (· ∈ Q'.map Prod.fst) (fun s hs m hm => d1 s hs m (prs_0 hm)) e (fun s hs => by
      rw [List.map_cons, List.map_nil, List.mem_singleton] at hs
      rw [hs]
      exact d2 _ (by simp)) a ha
def alk : Sum (List (Int × Int)) (List (List Int × List (Int × Int))) → Bool
  | .inl _ => false
  | .inr _ => true
theorem nms_le {k1 k2 : List Kd} {ams : List Int} (h1 : ∀ x ∈ k1, Gd x) (h2 : ∀ x ∈ k2, Ge x) (ha : ∀ m ∈ ams, 1 ≤ m ∧ m ≤ 7) : ∀ n ∈ nms k1 k2 ams, n ≤ 40 := by
  intro n hn
  unfold nms at hn
  rw [List.mem_append, List.mem_flatMap] at hn
  rcases hn with hn | ⟨k, hk, hn⟩
  · have := ha n hn; omega
  · have g : Ge k := by
      rw [List.mem_append] at hk
      exact hk.elim (fun h => (h1 k h).ge) (h2 k)
    obtain ⟨_, ⟨a1, a2⟩, ⟨b1, b2⟩, ⟨c1, c2⟩, _⟩ := g
    have hA : (ly k).A ≤ 5 * 2 := by
      unfold ly
      dsimp only
      split
      · exact Int.le_trans (Int.mul_le_mul_of_nonneg_right a2 (by omega)) (Int.mul_le_mul_of_nonneg_left (show k.c + 1 ≤ 2 by omega) (by omega))
      · omega
    have hB : (ly k).B = k.b := rfl
    unfold nmK at hn
    simp only [List.mem_cons, List.not_mem_nil, or_false] at hn
    rcases hn with rfl | rfl | rfl <;> omega
theorem sm_stand {E : List (List Int)} (h1 : E.length ≤ 5000) (h2 : ∀ q ∈ E, q.length ≤ 100) : Sm 2 (.list (E.map tupI)) := by
  refine ⟨by rw [List.length_map]; omega, fun x hx => ?_⟩
  obtain ⟨q, hq, rfl⟩ := List.mem_map.1 hx
  exact (sm_ints (xs := q) (by have := h2 q hq; omega)).1
section
variable (K : PySem.W.Frag) (w : PySem.World) {nums : List Int}
theorem paper_ {A B U M V : D} {E : List (List Int)} (al : Bool) {X : D} (ht : F_towers_alike K w [.d A, .d B, .d U, .d M] [] = .ok (.d (.tuple [.str (if al then "alike" else "apart"), X])) []) (hX : al = true → X = .list (E.map tupI)) (hE : Sm 2 (.list (E.map tupI))) : F_is_tower_paper K w [.d A, .d B, .d U, .d M, .d V] [] = .ok (.d (.bool (al && sameN 2 V (.list (E.map tupI))))) [] := by
  have sm := same_ 2 40 V _ hE (by omega)
  unfold F_is_tower_paper B_is_tower_paper
  cases al with
  | true =>
    rw [hX rfl] at ht
    have ht' : F_towers_alike K w [.d A, .d B, .d U, .d M] [] = .ok (.d (.tuple [.str "alike", .list (E.map tupI)])) [] := ht
    refine q_run (by walk_at "rep") (r := .d (.bool (decide (("alike" : Str) = "alike") && sameN 2 V (.list (E.map tupI))))) (cs1 := []) ?_ rfl (by simp)
    walk_at "st"
    walk_at "s1"
  | false =>
    have ht' : F_towers_alike K w [.d A, .d B, .d U, .d M] [] = .ok (.d (.tuple [.str "apart", X])) [] := ht
    have e1 : eCmp eqD (eBin ixD (eV 5) (eC (.int (0)))) (eC (.str "alike")) [.d A, .d B, .d U, .d M, .d V, .d (.tuple [.str "apart", X])] [] = .ok (.d (.bool false)) [] := q_cast (z := S.d (.bool (decide (("apart" : Str) = "alike")))) (by walk_at "ev") (by simp)
    refine q_run (by walk_at "rep") (r := .d (.bool false)) (cs1 := []) ?_ rfl rfl
    walk_at "st"
    exact sRet_of (eRv_d (eAnd_l e1))
end
theorem stand_rows (E0 : List (List Int)) : ∃ E : List (List Int), sortDt (E0.map tupI) = E.map tupI ∧ E.length = E0.length ∧ ∀ q ∈ E, q ∈ E0 := by
  have e : sortDt (E0.map tupI) = (E0.mergeSort fun a b => PySem.W.dataLe false id (tupI a) (tupI b)).map tupI := (List.map_mergeSort (f := tupI) (r := fun a b => PySem.W.dataLe false id (tupI a) (tupI b)) (s := PySem.W.dataLe false id) (l := E0) fun a _ b _ => rfl).symm
  exact ⟨_, e, (List.mergeSort_perm _ _).length_eq, fun q hq => (List.mergeSort_perm _ _).mem_iff.1 hq⟩
theorem tag_al (z : Sum (List (Int × Int)) (List (List Int × List (Int × Int)))) (u : Int) : ∃ X, resT u z = .tuple [.str (if alk z = true then "alike" else "apart"), X] ∧ (∀ Q, z = .inr Q → X = .list (sortDt ((Q.map Prod.fst).map tupI))) ∧ resW u z = .own (.lst [.str (if alk z = true then "alike" else "apart"), X]) := by
  cases z with
  | inl r => exact ⟨_, rfl, (fun Q h => by cases h), rfl⟩
  | inr Q => exact ⟨_, rfl, (fun Q' h => by cases h; rfl), rfl⟩
section
variable (K : PySem.W.Frag) (w : PySem.World) {nums : List Int}
theorem inner_ (h : InR nums) {k : Nat} (hk : k < 1000000000) {A B U M X : D} {E : List (List Int)} (al : Bool) (ht : F_towers_alike K w [.d A, .d B, .d U, .d M] [] = .ok (.d (.tuple [.str (if al then "alike" else "apart"), X])) []) (hX : al = true → X = .list (E.map tupI)) (h0 : E ≠ []) (hE1 : E.length ≤ 5000) (hE2 : ∀ q ∈ E, q.length ≤ 100) (s0 s2 s9 s10 : S) : ∃ (k' : Nat) (s9' s10' : S), k' ≤ k + 15 ∧ gFor (gtN 9) ((gSeq (sSet 10 (eFrz (eCallA F__law_spoilt (aCons (eV 1) (aCons (eV 7) aNil)))))
        (sIf (tNotM (tT (eFrz (eCall (F__law_equal 40) (aCons (eFrz (eCall (F_is_tower_paper K w) (aCons (eV 4) (aCons (eV 5) (aCons (eV 3) (aCons (eV 6) (aCons (eV 10) aNil))))))) (aCons (eAndM (eV 8) (eFrz (eCallV (F__law_equal 40) (aCons (eV 10) (aCons (eV 7) aNil))))) aNil)))))) (sRet (eRv (eC (.bool false)))) gNil))) (upTo 0 5) [s0, .cel 0, s2, .d U, .d A, .d B, .d M, .d (.list (E.map tupI)), .d (.bool al), s9, s10] (DSc nums k []) = .nx [s0, .cel 0, s2, .d U, .d A, .d B, .d M, .d (.list (E.map tupI)), .d (.bool al), s9', s10'] (DSc nums k' []) := by
  obtain ⟨ρ2, cs2, e, k', s9', s10', rfl, rfl, a1⟩ := rng_inv (tg := gtN 9) (g := (gSeq (sSet 10 (eFrz (eCallA F__law_spoilt (aCons (eV 1) (aCons (eV 7) aNil)))))
        (sIf (tNotM (tT (eFrz (eCall (F__law_equal 40) (aCons (eFrz (eCall (F_is_tower_paper K w) (aCons (eV 4) (aCons (eV 5) (aCons (eV 3) (aCons (eV 6) (aCons (eV 10) aNil))))))) (aCons (eAndM (eV 8) (eFrz (eCallV (F__law_equal 40) (aCons (eV 10) (aCons (eV 7) aNil))))) aNil)))))) (sRet (eRv (eC (.bool false)))) gNil))) (fun p ρ cs => ∃ (k' : Nat) (s9 s10 : S), ρ = [s0, .cel 0, s2, .d U, .d A, .d B, .d M, .d (.list (E.map tupI)), .d (.bool al), s9, s10] ∧ cs = DSc nums k' [] ∧ k' ≤ k + 3 * p) 5 0 [s0, .cel 0, s2, .d U, .d A, .d B, .d M, .d (.list (E.map tupI)), .d (.bool al), s9, s10] (DSc nums k []) ⟨k, s9, s10, rfl, rfl, by omega⟩ (by
    rintro p ρ cs _ hp ⟨k', s9, s10, rfl, rfl, a1⟩
    obtain ⟨r, k2, hr, hk2, sp⟩ := spoilt_ h (k := k') (by omega) h0 hE1 hE2
    have call : eCallA F__law_spoilt (aCons (eV 1) (aCons (eV 7) aNil)) [s0, .cel 0, s2, .d U, .d A, .d B, .d M, .d (.list (E.map tupI)), .d (.bool al), .d (.int (p : Nat)), s10] (DSc nums k' []) = .ok r (DSc nums k2 []) := eCallA_of (ss := [.cel 0, .d (.list (E.map tupI))]) (cs1 := DSc nums k' []) (by walk_at "ev") sp rfl
    obtain ⟨V, hV⟩ : ∃ V, eFrz (eCallA F__law_spoilt (aCons (eV 1) (aCons (eV 7) aNil))) [s0, .cel 0, s2, .d U, .d A, .d B, .d M, .d (.list (E.map tupI)), .d (.bool al), .d (.int (p : Nat)), s10] (DSc nums k' []) = .ok (.d V) (DSc nums k2 []) := by
      rcases hr with ⟨V, rfl⟩ | ⟨xs, rfl⟩
      · exact ⟨V, q_fd call⟩
      · exact ⟨.list xs, q_fl call⟩
    have sm := sm_stand hE1 hE2
    have pp := paper_ K w (V := V) al ht hX sm
    have eq := equal_ 2 40 V _ sm (by omega)
    have eb : F__law_equal 40 [.d (.bool (al && sameN 2 V (.list (E.map tupI)))), .d (.bool (al && sameN 2 V (.list (E.map tupI))))] [] = .ok (.d (.bool true)) [] := by rw [equal_bool]; simp
    have nlb : nlD (.bool (sameN 2 V (.list (E.map tupI)))) = true := rfl
    generalize E.map tupI = L at *
    have st : ((gSeq (sSet 10 (eFrz (eCallA F__law_spoilt (aCons (eV 1) (aCons (eV 7) aNil)))))
        (sIf (tNotM (tT (eFrz (eCall (F__law_equal 40) (aCons (eFrz (eCall (F_is_tower_paper K w) (aCons (eV 4) (aCons (eV 5) (aCons (eV 3) (aCons (eV 6) (aCons (eV 10) aNil))))))) (aCons (eAndM (eV 8) (eFrz (eCallV (F__law_equal 40) (aCons (eV 10) (aCons (eV 7) aNil))))) aNil)))))) (sRet (eRv (eC (.bool false)))) gNil))) [s0, .cel 0, s2, .d U, .d A, .d B, .d M, .d (.list L), .d (.bool al), .d (.int (p : Nat)), s10] (DSc nums k' []) = .nx [s0, .cel 0, s2, .d U, .d A, .d B, .d M, .d (.list L), .d (.bool al), .d (.int (p : Nat)), .d V] (DSc nums k2 []) := by
      walk_at "st"
      walk_at "s1"
    exact ⟨_, _, _, rfl, .inl st, k2, _, _, rfl, rfl, by omega⟩)
  exact ⟨k', s9', s10', by omega, e⟩
theorem turn_ (h : InR nums) {k : Nat} (hk : k < 100000000) (s0 s2 s3 s4 s5 s6 s7 s8 s9 s10 : S) : ∃ (k' : Nat) (s3' s4' s5' s6' s7' s8' s9' s10' : S), k' ≤ k + 1000 ∧ (((gSeq (sSet 3 (eBin ixD (eFrz (eLst (aCons (eC (.int (1))) (aCons (eC (.int (7))) (aCons (eC (.int (1000))) (aCons (eBin powD (eC (.int (10))) (eC (.int (9)))) aNil)))))) (eBin modD (eFrz (eCallC F__law_draw (aCons (eV 1) aNil))) (eC (.int (4))))))
      (gSeq (sTgt (gtL (gtsCons (gtN 4) (gtsCons (gtN 5) gtsNil))) (eFrz (eCallC F__law_towers (aCons (eV 1) (aCons (eV 3) aNil)))))
      (gSeq (sSet 6 (eFrz (eCallC F__law_amounts (aCons (eV 1) (aCons (eV 3) aNil)))))
      (gSeq (sNew 7 (eCall (F__law_all_standings K w) (aCons (eV 4) (aCons (eV 5) (aCons (eV 3) (aCons (eV 6) aNil))))))
      (gSeq (sIf (op1 isnD (eV 7)) gCon gNil)
      (gSeq (sSet 8 (eCmp eqD (eBin ixD (eFrz (eCall (F__law_walk K w) (aCons (eV 4) (aCons (eV 5) (aCons (eV 3) (aCons (eV 6) aNil)))))) (eC (.int (0)))) (eC (.str "alike"))))
      (gSeq (sIf (tNotM (tT (eFrz (eCall (F__law_equal 40) (aCons (eFrz (eCall (F_is_tower_paper K w) (aCons (eV 4) (aCons (eV 5) (aCons (eV 3) (aCons (eV 6) (aCons (eCd listG (aCons (eV 7) aNil)) aNil))))))) (aCons (eV 8) aNil)))))) (sRet (eRv (eC (.bool false)))) gNil)
      (sFor (gtN 9) (iRng (eC (.int (5)))) (gSeq (sSet 10 (eFrz (eCallA F__law_spoilt (aCons (eV 1) (aCons (eV 7) aNil)))))
        (sIf (tNotM (tT (eFrz (eCall (F__law_equal 40) (aCons (eFrz (eCall (F_is_tower_paper K w) (aCons (eV 4) (aCons (eV 5) (aCons (eV 3) (aCons (eV 6) (aCons (eV 10) aNil))))))) (aCons (eAndM (eV 8) (eFrz (eCallV (F__law_equal 40) (aCons (eV 10) (aCons (eV 7) aNil))))) aNil)))))) (sRet (eRv (eC (.bool false)))) gNil))))))))))) [s0, .cel 0, s2, s3, s4, s5, s6, s7, s8, s9, s10] (DSc nums k []) = .nx [s0, .cel 0, s2, s3', s4', s5', s6', s7', s8', s9', s10'] (DSc nums k' []) ∨ ((gSeq (sSet 3 (eBin ixD (eFrz (eLst (aCons (eC (.int (1))) (aCons (eC (.int (7))) (aCons (eC (.int (1000))) (aCons (eBin powD (eC (.int (10))) (eC (.int (9)))) aNil)))))) (eBin modD (eFrz (eCallC F__law_draw (aCons (eV 1) aNil))) (eC (.int (4))))))
      (gSeq (sTgt (gtL (gtsCons (gtN 4) (gtsCons (gtN 5) gtsNil))) (eFrz (eCallC F__law_towers (aCons (eV 1) (aCons (eV 3) aNil)))))
      (gSeq (sSet 6 (eFrz (eCallC F__law_amounts (aCons (eV 1) (aCons (eV 3) aNil)))))
      (gSeq (sNew 7 (eCall (F__law_all_standings K w) (aCons (eV 4) (aCons (eV 5) (aCons (eV 3) (aCons (eV 6) aNil))))))
      (gSeq (sIf (op1 isnD (eV 7)) gCon gNil)
      (gSeq (sSet 8 (eCmp eqD (eBin ixD (eFrz (eCall (F__law_walk K w) (aCons (eV 4) (aCons (eV 5) (aCons (eV 3) (aCons (eV 6) aNil)))))) (eC (.int (0)))) (eC (.str "alike"))))
      (gSeq (sIf (tNotM (tT (eFrz (eCall (F__law_equal 40) (aCons (eFrz (eCall (F_is_tower_paper K w) (aCons (eV 4) (aCons (eV 5) (aCons (eV 3) (aCons (eV 6) (aCons (eCd listG (aCons (eV 7) aNil)) aNil))))))) (aCons (eV 8) aNil)))))) (sRet (eRv (eC (.bool false)))) gNil)
      (sFor (gtN 9) (iRng (eC (.int (5)))) (gSeq (sSet 10 (eFrz (eCallA F__law_spoilt (aCons (eV 1) (aCons (eV 7) aNil)))))
        (sIf (tNotM (tT (eFrz (eCall (F__law_equal 40) (aCons (eFrz (eCall (F_is_tower_paper K w) (aCons (eV 4) (aCons (eV 5) (aCons (eV 3) (aCons (eV 6) (aCons (eV 10) aNil))))))) (aCons (eAndM (eV 8) (eFrz (eCallV (F__law_equal 40) (aCons (eV 10) (aCons (eV 7) aNil))))) aNil)))))) (sRet (eRv (eC (.bool false)))) gNil))))))))))) [s0, .cel 0, s2, s3, s4, s5, s6, s7, s8, s9, s10] (DSc nums k []) = .ct [s0, .cel 0, s2, s3', s4', s5', s6', s7', s8', s9', s10'] (DSc nums k' [])) := by
  have d1 := drc (c := []) h (show k < 1000000000000 by omega) (k + 1) rfl
  have m1 : modD (.int (dr nums k)) (.int 4) = some (.int (dr nums k % 4)) := p_mod (by omega)
  have pw : powD (.int 10) (.int 9) = some (.int 1000000000) := by rw [powD_int, if_pos (by decide)]; rfl
  obtain ⟨xu, ⟨u, rfl, hu⟩, hat⟩ := atI_mod (xs := [PyData.int 1, .int 7, .int 1000, .int 1000000000]) (P := fun x => ∃ u, x = .int u ∧ GU u) (dr nums k) 4 (by simp) (by simp) (fun x hx => by
    simp only [List.mem_cons, List.not_mem_nil, or_false] at hx
    rcases hx with rfl | rfl | rfl | rfl
    · exact ⟨_, rfl, by omega, by omega⟩
    · exact ⟨_, rfl, by omega, by omega⟩
    · exact ⟨_, rfl, by omega, by omega⟩
    · exact ⟨_, rfl, by omega, by omega⟩)
  generalize dr nums k % 4 = iu at *
  obtain ⟨k1, k2, K2, g1, g2, hK2, ct⟩ := law_towers_ h hu (show k + 1 < 10000000000 by omega) []
  obtain ⟨ams, K3, a1, a2, a3, hK3, ca⟩ := law_amounts_ h hu (show K2 < 10000000000 by omega) []
  have G1 : GT k1 := Ge_gt (fun x hx => (g1.1 x hx).ge) (by omega)
  have G2 : GT k2 := Ge_gt g2.1 g2.2
  have A2 : ∀ m ∈ ams, 0 ≤ m ∧ m ≤ 100 := fun m hm => by have := a1 m hm; omega
  have al := la_all K w hu G1 G2 A2 (by omega)
  have eam : (ams.map fun m => PyData.int (u * m)) = (ams.map (u * ·)).map .int := by rw [List.map_map]; rfl
  rw [eam] at al
  by_cases hz : ∃ Q, bfsA (stp0 (lyn k1) (lyn k2)) (prs0 ams) 4000 0 [(List.replicate ((lyn k1).length + (lyn k2).length) 0, [])] = some (.inr Q)
  · obtain ⟨Q, hz⟩ := hz
    rw [hz] at al
    obtain ⟨C, CL⟩ := cls_of hz
    obtain ⟨z, z1, ta⟩ := alike_ K w hu G1 G2 (by omega) (fun m hm => by have := a1 m hm; omega) a2 (nms_le g1.1 g2.1 a1) C
    have lw := lw_walk K w hu G1 G2 A2 (by omega) z1
    rw [eam] at lw
    dsimp only [resS] at al
    obtain ⟨X, t1, t2, t3⟩ := tag_al z u
    rw [t1] at ta
    rw [t3] at lw
    obtain ⟨E, hE, hEl, hEm⟩ := stand_rows (Q.map Prod.fst)
    rw [hE] at al
    have hX : alk z = true → X = .list (E.map tupI) := fun ha => by
      cases z with
      | inl r => cases ha
      | inr Q' => rw [t2 Q' rfl, ← hE, sortDt_perm (same_set hz z1)]
    have sl : ∀ s ∈ Q.map Prod.fst, St2 (lyn k1) (lyn k2) s := bfsS_all (f := fun s m => (stp0 (lyn k1) (lyn k2) s m).1) (St2 (lyn k1) (lyn k2)) (fun s hs m hm => stp2_St (lyn_g G1.1) (lyn_g G2.1) hs (A2 _ (prs0_mem hm)).1) (bfsA_S hz) fun s hs => by
      rw [List.map_cons, List.map_nil, List.mem_singleton] at hs
      rw [hs, ← List.replicate_append_replicate]
      exact app_St2 (zero_StT (lyn_g G1.1)) (zero_StT (lyn_g G2.1))
    have h0 : E ≠ [] := fun e => by
      have := C.2.1
      rw [e] at hEl
      rw [List.length_eq_zero_iff.1 hEl.symm] at this
      cases this
    have hE2 : ∀ q ∈ E, q.length ≤ 100 := fun q hq => by
      have := (sl q (hEm q hq)).len
      rw [lyn_len, lyn_len] at this
      have := G1.2
      have := G2.2
      omega
    have hE1 : E.length ≤ 5000 := by omega
    have sm := sm_stand hE1 hE2
    have pp := paper_ K w (V := .list (E.map tupI)) (alk z) ta hX sm
    rw [sameN_refl sm, Bool.and_true] at pp
    have eb : F__law_equal 40 [.d (.bool (alk z)), .d (.bool (alk z))] [] = .ok (.d (.bool true)) [] := by rw [equal_bool]; simp
    have tg : decide ((if alk z = true then ("alike" : Str) else "apart") = "alike") = alk z := by
      cases alk z <;> simp
    obtain ⟨K4, s9', s10', hK4, il⟩ := inner_ K w h (show K3 < 1000000000 by omega) (alk z) ta hX h0 hE1 hE2 s0 s2 s9 s10
    have e8 : eCmp eqD (eBin ixD (eFrz (eCall (F__law_walk K w) (aCons (eV 4) (aCons (eV 5) (aCons (eV 3) (aCons (eV 6) aNil)))))) (eC (.int (0)))) (eC (.str "alike")) [s0, .cel 0, s2, .d (.int u), .d (.tuple (k1.map (encK u))), .d (.tuple (k2.map (encK u))), .d (.tuple ((ams.map (u * ·)).map .int)), .d (.list (E.map tupI)), s8, s9, s10] (DSc nums K3 []) = .ok (.d (.bool (alk z))) (DSc nums K3 []) := q_cast (z := S.d (.bool (decide ((if alk z = true then ("alike" : Str) else "apart") = "alike")))) (by walk_at "ev") (by rw [tg])
    clear lw
    generalize alk z = b at *
    generalize E.map tupI = L at *
    refine ⟨K4, _, _, _, _, .d (.list L), .d (.bool b), s9', s10', by omega, .inl (q_fin (ρ' := [s0, .cel 0, s2, .d (.int u), .d (.tuple (k1.map (encK u))), .d (.tuple (k2.map (encK u))), .d (.tuple ((ams.map (u * ·)).map .int)), .d (.list L), .d (.bool b), s9', s10']) ?_ rfl rfl)⟩
    walk_at "st"
    walk_at "s1"
  · have al' : F__law_all_standings K w [.d (.tuple (k1.map (encK u))), .d (.tuple (k2.map (encK u))), .d (.int u), .d (.tuple ((ams.map (u * ·)).map .int))] [] = .ok (.d .none) [] := by
      rw [al]
      revert hz
      cases bfsA (stp0 (lyn k1) (lyn k2)) (prs0 ams) 4000 0 [(List.replicate ((lyn k1).length + (lyn k2).length) 0, [])] with
      | none => exact fun _ => rfl
      | some z =>
        cases z with
        | inl r => exact fun _ => rfl
        | inr Q => exact fun hz => (hz ⟨Q, rfl⟩).elim
    clear al hz
    have isn : isnD .none = some true := rfl
    refine ⟨K3, .d (.int u), .d (.tuple (k1.map (encK u))), .d (.tuple (k2.map (encK u))), .d (.tuple ((ams.map (u * ·)).map .int)), .d .none, s8, s9, s10, by omega, .inr ?_⟩
    walk_at "st"
    walk_at "s1"
theorem law_true (ns : List Int) (hns : ns.length ≤ 63) : ∃ cs', F_law K w [.d (.list (ns.map .int))] [] = .ok (.d (.bool true)) cs' := by
  obtain ⟨nums, en, h, hnl⟩ := numbers_ ns (by omega)
  have e0 : eFrz (eCall F__law_numbers (aCons (eV 0) aNil)) [.d (.list (ns.map .int)), .no, .no, .no, .no, .no, .no, .no, .no, .no, .no] [] = .ok (.d (.list (nums.map .int))) [] := by walk_at "ev"
  have hd : (sNew 1 (eLst (aCons (eFrz (eCall F__law_numbers (aCons (eV 0) aNil))) (aCons (eC (.int (0))) aNil)))) [.d (.list (ns.map .int)), .no, .no, .no, .no, .no, .no, .no, .no, .no, .no] [] = .nx [.d (.list (ns.map .int)), .cel 0, .no, .no, .no, .no, .no, .no, .no, .no, .no] (DSc nums 0 []) := by
    show _ = Out.nx _ [.lst [.list (nums.map .int), .int (0 : Nat)]]
    walk_at "end"
  generalize S.d (.list (ns.map .int)) = s0 at *
  obtain ⟨K1, t3, t4, t5, t6, t7, t8, t9, t10, hK1, r1⟩ := turn_ K w h (k := 0) (by omega) s0 (.d (.int 0)) .no .no .no .no .no .no .no .no
  obtain ⟨K2, v3, v4, v5, v6, v7, v8, v9, v10, hK2, r2⟩ := turn_ K w h (k := K1) (by omega) s0 (.d (.int 1)) t3 t4 t5 t6 t7 t8 t9 t10
  have lp : gFor (gtN 2) ((gSeq (sSet 3 (eBin ixD (eFrz (eLst (aCons (eC (.int (1))) (aCons (eC (.int (7))) (aCons (eC (.int (1000))) (aCons (eBin powD (eC (.int (10))) (eC (.int (9)))) aNil)))))) (eBin modD (eFrz (eCallC F__law_draw (aCons (eV 1) aNil))) (eC (.int (4))))))
      (gSeq (sTgt (gtL (gtsCons (gtN 4) (gtsCons (gtN 5) gtsNil))) (eFrz (eCallC F__law_towers (aCons (eV 1) (aCons (eV 3) aNil)))))
      (gSeq (sSet 6 (eFrz (eCallC F__law_amounts (aCons (eV 1) (aCons (eV 3) aNil)))))
      (gSeq (sNew 7 (eCall (F__law_all_standings K w) (aCons (eV 4) (aCons (eV 5) (aCons (eV 3) (aCons (eV 6) aNil))))))
      (gSeq (sIf (op1 isnD (eV 7)) gCon gNil)
      (gSeq (sSet 8 (eCmp eqD (eBin ixD (eFrz (eCall (F__law_walk K w) (aCons (eV 4) (aCons (eV 5) (aCons (eV 3) (aCons (eV 6) aNil)))))) (eC (.int (0)))) (eC (.str "alike"))))
      (gSeq (sIf (tNotM (tT (eFrz (eCall (F__law_equal 40) (aCons (eFrz (eCall (F_is_tower_paper K w) (aCons (eV 4) (aCons (eV 5) (aCons (eV 3) (aCons (eV 6) (aCons (eCd listG (aCons (eV 7) aNil)) aNil))))))) (aCons (eV 8) aNil)))))) (sRet (eRv (eC (.bool false)))) gNil)
      (sFor (gtN 9) (iRng (eC (.int (5)))) (gSeq (sSet 10 (eFrz (eCallA F__law_spoilt (aCons (eV 1) (aCons (eV 7) aNil)))))
        (sIf (tNotM (tT (eFrz (eCall (F__law_equal 40) (aCons (eFrz (eCall (F_is_tower_paper K w) (aCons (eV 4) (aCons (eV 5) (aCons (eV 3) (aCons (eV 6) (aCons (eV 10) aNil))))))) (aCons (eAndM (eV 8) (eFrz (eCallV (F__law_equal 40) (aCons (eV 10) (aCons (eV 7) aNil))))) aNil)))))) (sRet (eRv (eC (.bool false)))) gNil))))))))))) (upTo 0 2) [s0, .cel 0, .no, .no, .no, .no, .no, .no, .no, .no, .no] (DSc nums 0 []) = .nx [s0, .cel 0, .d (.int 1), v3, v4, v5, v6, v7, v8, v9, v10] (DSc nums K2 []) := for_step rfl r1 (for_step rfl r2 rfl)
  have body : (gSeq (sNew 1 (eLst (aCons (eFrz (eCall F__law_numbers (aCons (eV 0) aNil))) (aCons (eC (.int (0))) aNil))))
    (gSeq (sFor (gtN 2) (iRng (eC (.int (2)))) (gSeq (sSet 3 (eBin ixD (eFrz (eLst (aCons (eC (.int (1))) (aCons (eC (.int (7))) (aCons (eC (.int (1000))) (aCons (eBin powD (eC (.int (10))) (eC (.int (9)))) aNil)))))) (eBin modD (eFrz (eCallC F__law_draw (aCons (eV 1) aNil))) (eC (.int (4))))))
      (gSeq (sTgt (gtL (gtsCons (gtN 4) (gtsCons (gtN 5) gtsNil))) (eFrz (eCallC F__law_towers (aCons (eV 1) (aCons (eV 3) aNil)))))
      (gSeq (sSet 6 (eFrz (eCallC F__law_amounts (aCons (eV 1) (aCons (eV 3) aNil)))))
      (gSeq (sNew 7 (eCall (F__law_all_standings K w) (aCons (eV 4) (aCons (eV 5) (aCons (eV 3) (aCons (eV 6) aNil))))))
      (gSeq (sIf (op1 isnD (eV 7)) gCon gNil)
      (gSeq (sSet 8 (eCmp eqD (eBin ixD (eFrz (eCall (F__law_walk K w) (aCons (eV 4) (aCons (eV 5) (aCons (eV 3) (aCons (eV 6) aNil)))))) (eC (.int (0)))) (eC (.str "alike"))))
      (gSeq (sIf (tNotM (tT (eFrz (eCall (F__law_equal 40) (aCons (eFrz (eCall (F_is_tower_paper K w) (aCons (eV 4) (aCons (eV 5) (aCons (eV 3) (aCons (eV 6) (aCons (eCd listG (aCons (eV 7) aNil)) aNil))))))) (aCons (eV 8) aNil)))))) (sRet (eRv (eC (.bool false)))) gNil)
      (sFor (gtN 9) (iRng (eC (.int (5)))) (gSeq (sSet 10 (eFrz (eCallA F__law_spoilt (aCons (eV 1) (aCons (eV 7) aNil)))))
        (sIf (tNotM (tT (eFrz (eCall (F__law_equal 40) (aCons (eFrz (eCall (F_is_tower_paper K w) (aCons (eV 4) (aCons (eV 5) (aCons (eV 3) (aCons (eV 6) (aCons (eV 10) aNil))))))) (aCons (eAndM (eV 8) (eFrz (eCallV (F__law_equal 40) (aCons (eV 10) (aCons (eV 7) aNil))))) aNil)))))) (sRet (eRv (eC (.bool false)))) gNil)))))))))))
    (sRet (eRv (eC (.bool true)))))) [s0, .no, .no, .no, .no, .no, .no, .no, .no, .no, .no] [] = .rt (.d (.bool true)) (DSc nums K2 []) := by
    walk_at "st"
    walk_at "s1"
  exact ⟨_, q_run (n := 0) (by walk_at "rep") body rfl rfl⟩
end
end Law

set_option Elab.async false
set_option linter.all false
set_option maxRecDepth 100000
set_option maxHeartbeats 4000000
namespace Law
open PySem L2 Dn
structure Tx (K : PySem.W.Frag) (mg : PySem.Str → Option Value) : Prop where
  z_bool : mg "bool" = none
  z_int : mg "int" = none
  z_isinstance : mg "isinstance" = none
  z_len : mg "len" = none
  z_list : mg "list" = none
  z_max : mg "max" = none
  z_min : mg "min" = none
  z_range : mg "range" = none
  z_set : mg "set" = none
  z_sorted : mg "sorted" = none
  z_str : mg "str" = none
  z_sum : mg "sum" = none
  z_tuple : mg "tuple" = none
  m_MONEY : ∃ t, mg "MONEY" = some (.int (1000000000000) t)
  m_MOST_STANDINGS : ∃ t, mg "MOST_STANDINGS" = some (.int (4000) t)
  x_WhatbefellError : Exf K mg "WhatbefellError"
  x_BadArgument : Exf K mg "BadArgument"
  x_TooLarge : Exf K mg "TooLarge"
  g_Towers : mg "Towers" = some (.ref (He.ga K "Towers"))
  c_Towers : Cls K (He.ga K "Towers")
  k_Towers : Mk K (He.ga K "Towers") (He.ma K (He.ga K "Towers") "__init__")
  n_Towers_towers : NoAttr K (He.ga K "Towers") "towers"
  n_Towers_layers : NoAttr K (He.ga K "Towers") "layers"
  n_Towers_pairs : NoAttr K (He.ga K "Towers") "pairs"
  n_Towers_start : NoAttr K (He.ga K "Towers") "start"
  n_Towers_standings : NoAttr K (He.ga K "Towers") "standings"
  d_is_number : Dfn K mg "is_number" st_is_number ["value", "low", "high"]
  d_is_money : Dfn K mg "is_money" st_is_money ["value"]
  d_is_tuple : Dfn K mg "is_tuple" st_is_tuple ["value", "low", "high"]
  d_clipped : Dfn K mg "clipped" st_clipped ["total", "layer"]
  d_same : Dfn K mg "same" st_same ["value", "due"]
  d_is_kind : Dfn K mg "is_kind" st_is_kind ["value"]
  d_check_tower : Dfn K mg "check_tower" st_check_tower ["value"]
  d_layer_of : Dfn K mg "layer_of" st_layer_of ["kind"]
  d_taken : Dfn K mg "taken" st_taken ["tower", "layers", "sums", "amount", "begins"]
  d_Towers___init__ : DfnM K "Towers" "__init__" "Towers.__init__" st_Towers___init__ ["self", "one", "two", "unit", "amounts"]
  d_Towers_after : DfnM K "Towers" "after" "Towers.after" st_Towers_after ["self", "standing", "amount", "begins"]
  d_Towers_check_standings : DfnM K "Towers" "check_standings" "Towers.check_standings" st_Towers_check_standings ["self"]
  d_Towers_apart : DfnM K "Towers" "apart" "Towers.apart" st_Towers_apart ["self"]
  d_towers_alike : Dfn K mg "towers_alike" st_towers_alike ["one", "two", "unit", "amounts"]
  d_is_tower_paper : Dfn K mg "is_tower_paper" st_is_tower_paper ["one", "two", "unit", "amounts", "value"]
  d__law_mixed : Dfn K mg "_law_mixed" st__law_mixed ["number", "k"]
  d__law_numbers : Dfn K mg "_law_numbers" st__law_numbers ["script"]
  d__law_draw : Dfn K mg "_law_draw" st__law_draw ["draws"]
  d__law_equal : Dfn K mg "_law_equal" st__law_equal ["actual", "due"]
  d__law_all_equal : Dfn K mg "_law_all_equal" st__law_all_equal ["actual", "due"]
  d__law_clip : Dfn K mg "_law_clip" st__law_clip ["value", "pair"]
  d__law_layer : Dfn K mg "_law_layer" st__law_layer ["kind"]
  d__law_take : Dfn K mg "_law_take" st__law_take ["tower", "sums", "amount", "begins"]
  d__law_cut : Dfn K mg "_law_cut" st__law_cut ["tower", "sums", "unit"]
  d__law_walk : Dfn K mg "_law_walk" st__law_walk ["one", "two", "unit", "amounts"]
  d__law_kind : Dfn K mg "_law_kind" st__law_kind ["draws", "unit"]
  d__law_towers : Dfn K mg "_law_towers" st__law_towers ["draws", "unit"]
  d__law_amounts : Dfn K mg "_law_amounts" st__law_amounts ["draws", "unit"]
  d__law_all_standings : Dfn K mg "_law_all_standings" st__law_all_standings ["one", "two", "unit", "amounts"]
  d__law_spoilt : Dfn K mg "_law_spoilt" st__law_spoilt ["draws", "paper"]
  d_law : Dfn K mg "law" st_law ["script"]
theorem sc_is_number : FnScope ["value", "low", "high"] ["value", "low", "high"] (defScope st_is_number) := ⟨rfl, rfl, rfl, by decide +kernel, rfl, by decide +kernel, by decide +kernel⟩
theorem sc_is_money : FnScope ["value"] ["value"] (defScope st_is_money) := ⟨rfl, rfl, rfl, by decide +kernel, rfl, by decide +kernel, by decide +kernel⟩
theorem sc_is_tuple : FnScope ["value", "low", "high"] ["value", "low", "high"] (defScope st_is_tuple) := ⟨rfl, rfl, rfl, by decide +kernel, rfl, by decide +kernel, by decide +kernel⟩
theorem sc_clipped : FnScope ["total", "layer"] ["total", "layer"] (defScope st_clipped) := ⟨rfl, rfl, rfl, by decide +kernel, rfl, by decide +kernel, by decide +kernel⟩
theorem sc_same : FnScope ["value", "due", "k"] ["value", "due"] (defScope st_same) := ⟨rfl, rfl, rfl, by decide +kernel, rfl, by decide +kernel, by decide +kernel⟩
theorem sc_is_kind : FnScope ["value"] ["value"] (defScope st_is_kind) := ⟨rfl, rfl, rfl, by decide +kernel, rfl, by decide +kernel, by decide +kernel⟩
theorem sc_check_tower : FnScope ["value", "kind"] ["value"] (defScope st_check_tower) := ⟨rfl, rfl, rfl, by decide +kernel, rfl, by decide +kernel, by decide +kernel⟩
theorem sc_layer_of : FnScope ["kind"] ["kind"] (defScope st_layer_of) := ⟨rfl, rfl, rfl, by decide +kernel, rfl, by decide +kernel, by decide +kernel⟩
theorem sc_taken : FnScope ["tower", "layers", "sums", "amount", "begins", "longer", "left", "k", "before", "part"] ["tower", "layers", "sums", "amount", "begins"] (defScope st_taken) := ⟨rfl, rfl, rfl, by decide +kernel, rfl, by decide +kernel, by decide +kernel⟩
theorem sc_Towers___init__ : FnScope ["self", "one", "two", "unit", "amounts", "numbers", "kind", "tower", "amount", "number"] ["self", "one", "two", "unit", "amounts"] (defScope st_Towers___init__) := ⟨rfl, rfl, rfl, by decide +kernel, rfl, by decide +kernel, by decide +kernel⟩
theorem sc_Towers_after : FnScope ["self", "standing", "amount", "begins", "many", "first", "one", "second", "two"] ["self", "standing", "amount", "begins"] (defScope st_Towers_after) := ⟨rfl, rfl, rfl, by decide +kernel, rfl, by decide +kernel, by decide +kernel⟩
theorem sc_Towers_check_standings : FnScope ["self", "known", "at", "pair", "amount", "begins", "longer"] ["self"] (defScope st_Towers_check_standings) := ⟨rfl, rfl, rfl, by decide +kernel, rfl, by decide +kernel, by decide +kernel⟩
theorem sc_Towers_apart : FnScope ["self", "found", "known", "at", "standing", "run", "pair", "amount", "begins", "longer", "one", "two"] ["self"] (defScope st_Towers_apart) := ⟨rfl, rfl, rfl, by decide +kernel, rfl, by decide +kernel, by decide +kernel⟩
theorem sc_towers_alike : FnScope ["one", "two", "unit", "amounts", "towers", "run"] ["one", "two", "unit", "amounts"] (defScope st_towers_alike) := ⟨rfl, rfl, rfl, by decide +kernel, rfl, by decide +kernel, by decide +kernel⟩
theorem sc_is_tower_paper : FnScope ["one", "two", "unit", "amounts", "value", "told"] ["one", "two", "unit", "amounts", "value"] (defScope st_is_tower_paper) := ⟨rfl, rfl, rfl, by decide +kernel, rfl, by decide +kernel, by decide +kernel⟩
theorem sc__law_mixed : FnScope ["number", "k", "step"] ["number", "k"] (defScope st__law_mixed) := ⟨rfl, rfl, rfl, by decide +kernel, rfl, by decide +kernel, by decide +kernel⟩
theorem sc__law_numbers : FnScope ["script", "numbers", "cell", "rest", "k"] ["script"] (defScope st__law_numbers) := ⟨rfl, rfl, rfl, by decide +kernel, rfl, by decide +kernel, by decide +kernel⟩
theorem sc__law_draw : FnScope ["draws", "at", "first"] ["draws"] (defScope st__law_draw) := ⟨rfl, rfl, rfl, by decide +kernel, rfl, by decide +kernel, by decide +kernel⟩
theorem sc__law_equal : FnScope ["actual", "due"] ["actual", "due"] (defScope st__law_equal) := ⟨rfl, rfl, rfl, by decide +kernel, rfl, by decide +kernel, by decide +kernel⟩
theorem sc__law_all_equal : FnScope ["actual", "due", "k"] ["actual", "due"] (defScope st__law_all_equal) := ⟨rfl, rfl, rfl, by decide +kernel, rfl, by decide +kernel, by decide +kernel⟩
theorem sc__law_clip : FnScope ["value", "pair"] ["value", "pair"] (defScope st__law_clip) := ⟨rfl, rfl, rfl, by decide +kernel, rfl, by decide +kernel, by decide +kernel⟩
theorem sc__law_layer : FnScope ["kind"] ["kind"] (defScope st__law_layer) := ⟨rfl, rfl, rfl, by decide +kernel, rfl, by decide +kernel, by decide +kernel⟩
theorem sc__law_take : FnScope ["tower", "sums", "amount", "begins", "found", "k", "layer", "before"] ["tower", "sums", "amount", "begins"] (defScope st__law_take) := ⟨rfl, rfl, rfl, by decide +kernel, rfl, by decide +kernel, by decide +kernel⟩
theorem sc__law_cut : FnScope ["tower", "sums", "unit", "k"] ["tower", "sums", "unit"] (defScope st__law_cut) := ⟨rfl, rfl, rfl, by decide +kernel, rfl, by decide +kernel, by decide +kernel⟩
theorem sc__law_walk : FnScope ["one", "two", "unit", "amounts", "start", "queue", "known", "at", "state", "run", "amount", "begins", "first", "second", "after", "standing", "number"] ["one", "two", "unit", "amounts"] (defScope st__law_walk) := ⟨rfl, rfl, rfl, by decide +kernel, rfl, by decide +kernel, by decide +kernel⟩
theorem sc__law_kind : FnScope ["draws", "unit", "a", "b"] ["draws", "unit"] (defScope st__law_kind) := ⟨rfl, rfl, rfl, by decide +kernel, rfl, by decide +kernel, by decide +kernel⟩
theorem sc__law_towers : FnScope ["draws", "unit", "one", "pick", "at", "kind", "part", "k"] ["draws", "unit"] (defScope st__law_towers) := ⟨rfl, rfl, rfl, by decide +kernel, rfl, by decide +kernel, by decide +kernel⟩
theorem sc__law_amounts : FnScope ["draws", "unit", "k"] ["draws", "unit"] (defScope st__law_amounts) := ⟨rfl, rfl, rfl, by decide +kernel, rfl, by decide +kernel, by decide +kernel⟩
theorem sc__law_all_standings : FnScope ["one", "two", "unit", "amounts", "start", "queue", "known", "at", "amount", "begins", "first", "second", "after", "standing", "number"] ["one", "two", "unit", "amounts"] (defScope st__law_all_standings) := ⟨rfl, rfl, rfl, by decide +kernel, rfl, by decide +kernel, by decide +kernel⟩
theorem sc__law_spoilt : FnScope ["draws", "paper", "at", "pick"] ["draws", "paper"] (defScope st__law_spoilt) := ⟨rfl, rfl, rfl, by decide +kernel, rfl, by decide +kernel, by decide +kernel⟩
theorem sc_law : FnScope ["script", "draws", "turn", "unit", "one", "two", "amounts", "every", "alike", "k", "value"] ["script"] (defScope st_law) := ⟨rfl, rfl, rfl, by decide +kernel, rfl, by decide +kernel, by decide +kernel⟩
section
variable {P : Program} {w : World} {K : PySem.W.Frag} {mg : PySem.Str → Option Value} {base : Heap}
theorem ok_is_number (T : Tx K mg) : Okf P w K mg base 1 "is_number" ["value", "low", "high"] F_is_number :=
  T.d_is_number.ok sc_is_number 0 rfl fun cdv A outer s H E hr tk po =>
    (dss_one (dst_ret ((de_and (de_isa (de_name 0) T.z_isinstance T.z_int (.inl rfl) bt_int) (de_and (de_not (de_isa (de_name 0) T.z_isinstance T.z_bool (.inr (.inl rfl)) bt_bool)) (de_one (de_chn le_ok le_ok (de_name 1) (de_name 0) (de_name 2)))))).rv))
theorem ok_is_money (T : Tx K mg) : Okf P w K mg base 2 "is_money" ["value"] F_is_money :=
  T.d_is_money.ok sc_is_money 0 rfl fun cdv A outer s H E hr tk po =>
    (dss_one (dst_ret (do_f (ok_is_number T) (hr.mono (by decide)) tk (da_cons (de_name 0) (da_cons de_int (da_cons (de_gI T.m_MONEY) da_nil))) (alenS (alenS (alenS alen0))))))
theorem ok_is_tuple (T : Tx K mg) : Okf P w K mg base 1 "is_tuple" ["value", "low", "high"] F_is_tuple :=
  T.d_is_tuple.ok sc_is_tuple 0 rfl fun cdv A outer s H E hr tk po =>
    (dss_one (dst_ret ((de_and (de_isa (de_name 0) T.z_isinstance T.z_tuple (.inr (.inr (.inr (.inr (.inl rfl))))) bt_tuple) (de_one (de_chn le_ok le_ok (de_name 1) (de_callB len_ok T.z_len bt_len (da_cons (de_name 0) da_nil)) (de_name 2))))).rv))
theorem ok_clipped (T : Tx K mg) : Okf P w K mg base 1 "clipped" ["total", "layer"] F_clipped :=
  T.d_clipped.ok sc_clipped 0 rfl fun cdv A outer s H E hr tk po =>
    (dss_cons (dst_if (dt_cmp (eq_ok hr.units) (de_name 1) (de_tup da_nil)) (dss_one (dst_ret ((de_name 0)).rv)) dss_nil)
    (dss_one (dst_ret ((de_callB (min_ok rfl) T.z_min bt_min (da_cons (de_callB (max_ok rfl) T.z_max bt_max (da_cons (de_op sub_ok (de_name 0) (de_ix (de_name 1) de_int)) (da_cons de_int da_nil))) (da_cons (de_ix (de_name 1) de_int) da_nil)))).rv)))
theorem st_ok_same {k : Nat} (hk : 0 ≤ k) {f_same : List S → M Rv} (T : Tx K mg) (h_same : Okf P w K mg base k "same" ["value", "due"] f_same) : Okf P w K mg base (k + 1) "same" ["value", "due"] (runG 1 (B_same f_same)) :=
  T.d_same.ok sc_same 1 rfl fun cdv A outer s H E hr tk po =>
    (dss_cons (dst_if (dt_isn (de_name 1)) (dss_one (dst_ret ((de_isn (de_name 0))).rv)) dss_nil)
    (dss_cons (dst_if (dw_or (dw_and (dt_tru (de_isa (de_name 1) T.z_isinstance T.z_list (.inr (.inr (.inr (.inl rfl)))) bt_list)) (dw_and1 (dt_not (dt_tru (de_isa (de_name 0) T.z_isinstance T.z_list (.inr (.inr (.inr (.inl rfl)))) bt_list))))).dt (dw_or1 (dw_and (dt_tru (de_isa (de_name 1) T.z_isinstance T.z_tuple (.inr (.inr (.inr (.inr (.inl rfl))))) bt_tuple)) (dw_and1 (dt_not (dt_tru (de_isa (de_name 0) T.z_isinstance T.z_tuple (.inr (.inr (.inr (.inr (.inl rfl))))) bt_tuple))))).dt)).dt (dss_one (dst_ret (de_bl).rv)) dss_nil)
    (dss_cons (dst_if (dw_or (dt_tru (de_isa (de_name 1) T.z_isinstance T.z_list (.inr (.inr (.inr (.inl rfl)))) bt_list)) (dw_or1 (dt_tru (de_isa (de_name 1) T.z_isinstance T.z_tuple (.inr (.inr (.inr (.inr (.inl rfl))))) bt_tuple)))).dt (dss_one (dst_ret ((de_and (de_cmp (eq_ok hr.units) (de_callB len_ok T.z_len bt_len (da_cons (de_name 0) da_nil)) (de_callB len_ok T.z_len bt_len (da_cons (de_name 1) da_nil))) (de_one (de_cmp (eq_ok hr.units) ((do_lc [("k", 2)] sc_same.nd (di_rng (de_callB len_ok T.z_len bt_len (da_cons (de_name 1) da_nil)) T.z_range) (fun _ _ _ _ _ => (dgb_name 2 sc_same.nd)) (fun _ _ _ _ _ => (dts_one (dt_not (dt_tru ((do_f h_same hr takesWf (da_cons (de_ix (de_name 0) (de_name 2)) (da_cons (de_ix (de_name 1) (de_name 2)) da_nil)) (alenS (alenS alen0)))).frz)))) (fun _ _ _ _ _ => (de_name 2)))).frz ((do_lst da_nil)).frz)))).rv)) dss_nil)
    (dss_cons (dst_if (dt_tru (de_isa (de_name 1) T.z_isinstance T.z_int (.inl rfl) bt_int)) (dss_one (dst_ret ((de_and (de_isa (de_name 0) T.z_isinstance T.z_int (.inl rfl) bt_int) (de_and (de_not (de_isa (de_name 0) T.z_isinstance T.z_bool (.inr (.inl rfl)) bt_bool)) (de_one (de_cmp (eq_ok hr.units) (de_name 0) (de_name 1)))))).rv)) dss_nil)
    (dss_one (dst_ret ((de_and (de_isa (de_name 0) T.z_isinstance T.z_str (.inr (.inr (.inl rfl))) bt_str) (de_one (de_cmp (eq_ok hr.units) (de_name 0) (de_name 1))))).rv))))))
theorem ok_same (T : Tx K mg) : ∀ n, Okf P w K mg base (0 + n) "same" ["value", "due"] (F_same n)
  | 0 => T.d_same.ok0
  | n + 1 => st_ok_same (Nat.le_add_right _ _) T (ok_same T n)
theorem ok_is_kind (T : Tx K mg) : Okf P w K mg base 3 "is_kind" ["value"] F_is_kind :=
  T.d_is_kind.ok sc_is_kind 0 rfl fun cdv A outer s H E hr tk po =>
    (dss_cons (dst_if (dw_or (dt_not (dt_tru (de_isa (de_name 0) T.z_isinstance T.z_tuple (.inr (.inr (.inr (.inr (.inl rfl))))) bt_tuple))) (dw_or (dt_cmp lt_ok (de_callB len_ok T.z_len bt_len (da_cons (de_name 0) da_nil)) de_int) (dw_or1 (dt_not (dt_tru (de_isa (de_ix (de_name 0) de_int) T.z_isinstance T.z_str (.inr (.inr (.inl rfl))) bt_str)))))).dt (dss_one (dst_ret (de_bl).rv)) dss_nil)
    (dss_cons (dst_if (dt_cmp (eq_ok hr.units) (de_ix (de_name 0) de_int) de_str) (dss_one (dst_ret ((de_and (de_cmp (eq_ok hr.units) (de_callB len_ok T.z_len bt_len (da_cons (de_name 0) da_nil)) de_int) (de_one ((do_f (ok_is_number T) (hr.mono (by decide)) tk (da_cons (de_ix (de_name 0) de_int) (da_cons de_int (da_cons de_int da_nil))) (alenS (alenS (alenS alen0))))).frz))).rv)) dss_nil)
    (dss_cons (dst_if (dt_cmp (in_ok (hu65 hr)) (de_ix (de_name 0) de_int) (de_tup (da_cons de_str (da_cons de_str da_nil)))) (dss_one (dst_ret ((de_and (de_cmp (eq_ok hr.units) (de_callB len_ok T.z_len bt_len (da_cons (de_name 0) da_nil)) de_int) (de_and ((do_f (ok_is_money T) (hr.mono (by decide)) tk (da_cons (de_ix (de_name 0) de_int) da_nil) (alenS alen0))).frz (de_one ((do_f (ok_is_money T) (hr.mono (by decide)) tk (da_cons (de_ix (de_name 0) de_int) da_nil) (alenS alen0))).frz)))).rv)) dss_nil)
    (dss_cons (dst_if (dw_or (dt_cmp (ne_ok hr.units) (de_ix (de_name 0) de_int) de_str) (dw_or (dt_cmp (ne_ok hr.units) (de_callB len_ok T.z_len bt_len (da_cons (de_name 0) da_nil)) de_int) (dw_or (dt_not (dt_tru ((do_f (ok_is_money T) (hr.mono (by decide)) tk (da_cons (de_ix (de_name 0) de_int) da_nil) (alenS alen0))).frz)) (dw_or1 (dt_not (dt_tru ((do_f (ok_is_money T) (hr.mono (by decide)) tk (da_cons (de_ix (de_name 0) de_int) da_nil) (alenS alen0))).frz)))))).dt (dss_one (dst_ret (de_bl).rv)) dss_nil)
    (dss_one (dst_ret ((de_and ((do_f (ok_is_number T) (hr.mono (by decide)) tk (da_cons (de_ix (de_name 0) de_int) (da_cons de_int (da_cons de_int da_nil))) (alenS (alenS (alenS alen0))))).frz (de_one ((do_f (ok_is_number T) (hr.mono (by decide)) tk (da_cons (de_ix (de_name 0) de_int) (da_cons de_int (da_cons de_int da_nil))) (alenS (alenS (alenS alen0))))).frz))).rv))))))
theorem ok_check_tower (T : Tx K mg) : Okf P w K mg base 4 "check_tower" ["value"] F_check_tower :=
  T.d_check_tower.ok sc_check_tower 1 rfl fun cdv A outer s H E hr tk po =>
    (dss_one (dst_if (dw_or (dt_not (dt_tru ((do_f (ok_is_tuple T) (hr.mono (by decide)) tk (da_cons (de_name 0) (da_cons de_int (da_cons de_int da_nil))) (alenS (alenS (alenS alen0))))).frz)) (dw_or1 (dt_tru ((do_lc [("kind", 1)] sc_check_tower.nd (di_any (de_name 0)) (fun _ _ _ _ _ => (dgb_name 1 sc_check_tower.nd)) (fun _ _ _ _ _ => (dts_one (dw_or (dt_not (dt_tru ((do_f (ok_is_kind T) (hr.mono (by decide)) takesWf (da_cons (de_name 1) da_nil) (alenS alen0))).frz)) (dw_or1 (dt_cmp (eq_ok hr.units) (de_ix (de_name 1) de_int) de_str))).dt)) (fun _ _ _ _ _ => (de_name 1)))).frz))).dt (dss_one (dst_rs T.x_BadArgument tk)) dss_nil))
theorem ok_layer_of (T : Tx K mg) : Okf P w K mg base 1 "layer_of" ["kind"] F_layer_of :=
  T.d_layer_of.ok sc_layer_of 0 rfl fun cdv A outer s H E hr tk po =>
    (dss_one (dst_ret ((de_if (dt_cmp (eq_ok hr.units) (de_ix (de_name 0) de_int) de_str) (de_tup (da_cons (de_op mul_ok (de_ix (de_name 0) de_int) (de_op add_ok (de_ix (de_name 0) de_int) de_int)) (da_cons (de_ix (de_name 0) de_int) da_nil))) (de_tup (da_cons (de_ix (de_name 0) de_int) (da_cons (de_ix (de_name 0) de_int) da_nil))))).rv))
theorem ok_taken (T : Tx K mg) : Okf P w K mg base 2 "taken" ["tower", "layers", "sums", "amount", "begins"] F_taken :=
  T.d_taken.ok sc_taken 5 rfl fun cdv A outer s H E hr tk po =>
    (dss_cons (dst_new 5 sc_taken.nd (do_lst da_nil))
    (dss_cons (dst_set 6 sc_taken.nd (de_name 3))
    (dss_cons (dst_for po (di_rng (de_callB len_ok T.z_len bt_len (da_cons (de_name 0) da_nil)) T.z_range) (dg_name 7 sc_taken.nd) (dss_cons (dst_set 8 sc_taken.nd (de_if (dw_or (dt_cmp (eq_ok hr.units) (de_ix (de_ix (de_name 0) (de_name 7)) de_int) de_str) (dw_or1 (dw_and (dt_cmp (eq_ok hr.units) (de_ix (de_ix (de_name 0) (de_name 7)) de_int) de_str) (dw_and1 (dt_cmp (eq_ok hr.units) (de_name 4) de_int))).dt)).dt de_int (de_ix (de_name 2) (de_name 7))))
      (dss_cons (dst_set 9 sc_taken.nd (de_op sub_ok ((do_f (ok_clipped T) (hr.mono (by decide)) tk (da_cons (de_op add_ok (de_name 8) (de_name 6)) (da_cons (de_ix (de_name 1) (de_name 7)) da_nil)) (alenS (alenS alen0)))).frz ((do_f (ok_clipped T) (hr.mono (by decide)) tk (da_cons (de_name 8) (da_cons (de_ix (de_name 1) (de_name 7)) da_nil)) (alenS (alenS alen0)))).frz))
      (dss_cons (dst_exp (de_mt PySem.F.slot_list_append PySem.F.type_list_append app_ok (de_name 5) (da_cons (de_if (dt_cmp (eq_ok hr.units) (de_ix (de_ix (de_name 0) (de_name 7)) de_int) de_str) de_int (de_callB (min_ok rfl) T.z_min bt_min (da_cons (de_op add_ok (de_name 8) (de_name 6)) (da_cons (de_op add_ok (de_ix (de_ix (de_name 1) (de_name 7)) de_int) (de_ix (de_ix (de_name 1) (de_name 7)) de_int)) da_nil)))) da_nil)))
      (dss_one (dst_set 6 sc_taken.nd (de_op sub_ok (de_name 6) (de_name 9))))))))
    (dss_one (dst_ret ((de_tup (da_cons (de_callT tuple_ok T.z_tuple bt_tuple (da_cons (de_name 5) da_nil)) (da_cons (de_name 6) da_nil)))).rv)))))
theorem ok_Towers_after (T : Tx K mg) : OkfW P w K mg base 3 (He.ma K (He.ga K "Towers") "after") ["self", "standing", "amount", "begins"] (F_Towers_after K w) :=
  T.d_Towers_after.okW sc_Towers_after 5 rfl fun cdv A outer s H E hr tk po =>
    (dss_cons (dst_set 4 sc_Towers_after.nd (de_callB len_ok T.z_len bt_len (da_cons (de_ix (de_fld T.c_Towers T.n_Towers_towers (de_name 0)) de_int) da_nil)))
    (dss_cons (dst_tgt ((do_f (ok_taken T) (hr.mono (by decide)) tk (da_cons (de_ix (de_fld T.c_Towers T.n_Towers_towers (de_name 0)) de_int) (da_cons (de_ix (de_fld T.c_Towers T.n_Towers_layers (de_name 0)) de_int) (da_cons (de_sl (de_name 1) dpo_none (dpo_some (de_name 4))) (da_cons (de_name 2) (da_cons (de_name 3) da_nil))))) (alenS (alenS (alenS (alenS (alenS alen0))))))).frz (dg_tup 2 (dgs_cons (dg_name 5 sc_Towers_after.nd) (dgs_cons (dg_name 6 sc_Towers_after.nd) dgs_nil)) (gts_lenS (gts_lenS gts_len0))))
    (dss_cons (dst_tgt ((do_f (ok_taken T) (hr.mono (by decide)) tk (da_cons (de_ix (de_fld T.c_Towers T.n_Towers_towers (de_name 0)) de_int) (da_cons (de_ix (de_fld T.c_Towers T.n_Towers_layers (de_name 0)) de_int) (da_cons (de_sl (de_name 1) (dpo_some (de_name 4)) dpo_none) (da_cons (de_name 2) (da_cons (de_name 3) da_nil))))) (alenS (alenS (alenS (alenS (alenS alen0))))))).frz (dg_tup 2 (dgs_cons (dg_name 7 sc_Towers_after.nd) (dgs_cons (dg_name 8 sc_Towers_after.nd) dgs_nil)) (gts_lenS (gts_lenS gts_len0))))
    (dss_one (dst_ret ((de_tup (da_cons (de_op add_ok (de_name 5) (de_name 7)) (da_cons (de_name 6) (da_cons (de_name 8) da_nil))))).rv)))))
theorem ok_Towers_check_standings (T : Tx K mg) : OkfW P w K mg base 4 (He.ma K (He.ga K "Towers") "check_standings") ["self"] (F_Towers_check_standings K w) :=
  T.d_Towers_check_standings.okW sc_Towers_check_standings 6 rfl fun cdv A outer s H E hr tk po =>
    (dss_cons (dst_fld T.c_Towers T.n_Towers_standings (de_name 0) (do_lst (da_cons (de_fld T.c_Towers T.n_Towers_start (de_name 0)) da_nil)))
    (dss_cons (dst_new 1 sc_Towers_check_standings.nd (do_dicV1 (hu200 hr) (de_fld T.c_Towers T.n_Towers_start (de_name 0)) de_bl))
    (dss_cons (dst_set 2 sc_Towers_check_standings.nd de_int)
    (dss_one (dst_while (fun _ _ => 5000) po (dt_cmp lt_ok (de_name 2) (de_callB len_ok T.z_len bt_len (da_cons (de_fld T.c_Towers T.n_Towers_standings (de_name 0)) da_nil))) (dss_cons (dst_forC po (di_cel (de_fld T.c_Towers T.n_Towers_pairs (de_name 0))) (dg_tup 3 (dgs_cons (dg_name 3 sc_Towers_check_standings.nd) (dgs_cons (dg_name 4 sc_Towers_check_standings.nd) (dgs_cons (dg_name 5 sc_Towers_check_standings.nd) dgs_nil))) (gts_lenS (gts_lenS (gts_lenS gts_len0)))) (dss_cons (dst_set 6 sc_Towers_check_standings.nd (de_ix ((do_methW T.c_Towers T.d_Towers_after.M (ok_Towers_after T) (hr.mono (by decide)) tk (de_name 0) (da_cons (de_ix (de_fld T.c_Towers T.n_Towers_standings (de_name 0)) (de_name 2)) (da_cons (de_name 4) (da_cons (de_name 5) da_nil))) (alenM (alenS (alenS (alenS alen0)))))).frz de_int))
        (dss_one (dst_if (dt_ninV (hu200 hr) (de_name 6) (de_name 1)) (dss_cons (dst_if (dt_cmp (eq_ok hr.units) (de_callB len_ok T.z_len bt_len (da_cons (de_fld T.c_Towers T.n_Towers_standings (de_name 0)) da_nil)) (de_gI T.m_MOST_STANDINGS)) (dss_one (dst_rs T.x_TooLarge tk)) dss_nil)
          (dss_cons (dst_subV (hu200 hr) de_bl (de_name 1) (de_name 6))
          (dss_one (dst_exp (de_mt PySem.F.slot_list_append PySem.F.type_list_append app_ok (de_fld T.c_Towers T.n_Towers_standings (de_name 0)) (da_cons (de_name 6) da_nil)))))) dss_nil))))
      (dss_one (dst_set 2 sc_Towers_check_standings.nd (de_op add_ok (de_name 2) de_int)))))))))
theorem ok_Towers___init__ (T : Tx K mg) : OkfW P w K mg base 5 (He.ma K (He.ga K "Towers") "__init__") ["self", "one", "two", "unit", "amounts"] (F_Towers___init__ K w) :=
  T.d_Towers___init__.okW sc_Towers___init__ 5 rfl fun cdv A outer s H E hr tk po =>
    (dss_cons (dst_if (dt_not (dt_tru ((do_f (ok_is_number T) (hr.mono (by decide)) tk (da_cons (de_name 3) (da_cons de_int (da_cons de_int da_nil))) (alenS (alenS (alenS alen0))))).frz)) (dss_one (dst_rs T.x_BadArgument tk)) dss_nil)
    (dss_cons (dst_if (dw_or (dt_not (dt_tru ((do_f (ok_is_tuple T) (hr.mono (by decide)) tk (da_cons (de_name 4) (da_cons de_int (da_cons de_int da_nil))) (alenS (alenS (alenS alen0))))).frz)) (dw_or1 (dt_tru ((do_lc [("amount", 8)] sc_Towers___init__.nd (di_any (de_name 4)) (fun _ _ _ _ _ => (dgb_name 8 sc_Towers___init__.nd)) (fun _ _ _ _ _ => (dts_one (dw_or (dt_not (dt_tru ((do_f (ok_is_money T) (hr.mono (by decide)) takesWf (da_cons (de_name 8) da_nil) (alenS alen0))).frz)) (dw_or1 (dt_cmp lt_ok (de_name 8) de_int))).dt)) (fun _ _ _ _ _ => (de_name 8)))).frz))).dt (dss_one (dst_rs T.x_BadArgument tk)) dss_nil)
    (dss_cons (dst_if (dt_cmp (ne_ok hr.units) (de_callT list_ok T.z_list bt_list (da_cons (de_name 4) da_nil)) (de_sortedSet T.z_sorted T.z_set (de_name 4))) (dss_one (dst_rs T.x_BadArgument tk)) dss_nil)
    (dss_cons (dst_new 5 sc_Towers___init__.nd (do_listO T.z_list bt_list (de_name 4)))
    (dss_cons (dst_for po (di_any (de_op add_ok (de_name 1) (de_name 2))) (dg_name 6 sc_Towers___init__.nd) (dss_one (dst_exp (de_mt PySem.F.slot_list_extend PySem.F.type_list_extend ext_ok (de_name 5) (da_cons (de_op add_ok (de_callT list_ok T.z_list bt_list (da_cons ((do_f (ok_layer_of T) (hr.mono (by decide)) tk (da_cons (de_name 6) da_nil) (alenS alen0))).frz da_nil)) ((do_lst (da_cons (de_ix (de_name 6) de_int) da_nil))).frz) da_nil)))))
    (dss_cons (dst_if (dt_tru ((do_lcC [("number", 9)] sc_Towers___init__.nd (di_cel (de_name 5)) (fun _ _ _ _ _ => (dgb_name 9 sc_Towers___init__.nd)) (fun _ _ _ _ _ => (dts_one (dt_cmp (ne_ok hr.units) (de_op mod_ok (de_name 9) (de_name 3)) de_int))) (fun _ _ _ _ _ => (de_name 9)))).frz) (dss_one (dst_rs T.x_BadArgument tk)) dss_nil)
    (dss_cons (dst_if (dt_cmp gt_ok (de_op fdiv_ok (de_callB (maxL_ok rfl) T.z_max bt_max (da_cons (de_name 5) da_nil)) (de_name 3)) de_int) (dss_one (dst_rs T.x_TooLarge tk)) dss_nil)
    (dss_cons (dst_fld T.c_Towers T.n_Towers_towers (de_name 0) ((de_tup (da_cons (de_name 1) (da_cons (de_name 2) da_nil)))).rv)
    (dss_cons (dst_fld T.c_Towers T.n_Towers_layers (de_name 0) (do_lst da_nil))
    (dss_cons (dst_for po (di_any (de_fld T.c_Towers T.n_Towers_towers (de_name 0))) (dg_name 7 sc_Towers___init__.nd) (dss_one (dst_exp (de_mt PySem.F.slot_list_append PySem.F.type_list_append app_ok (de_fld T.c_Towers T.n_Towers_layers (de_name 0)) (da_cons ((do_lc [("kind", 6)] sc_Towers___init__.nd (di_any (de_name 7)) (fun _ _ _ _ _ => (dgb_name 6 sc_Towers___init__.nd)) (fun _ _ _ _ _ => dts_nil) (fun _ _ _ _ _ => (de_tup (da_cons (de_op fdiv_ok (de_ix ((do_f (ok_layer_of T) (hr.mono (by decide)) takesWf (da_cons (de_name 6) da_nil) (alenS alen0))).frz de_int) (de_name 3)) (da_cons (de_op fdiv_ok (de_ix ((do_f (ok_layer_of T) (hr.mono (by decide)) takesWf (da_cons (de_name 6) da_nil) (alenS alen0))).frz de_int) (de_name 3)) da_nil)))))).frz da_nil)))))
    (dss_cons (dst_fld T.c_Towers T.n_Towers_pairs (de_name 0) (do_lst da_nil))
    (dss_cons (dst_for po (di_any (de_name 4)) (dg_name 8 sc_Towers___init__.nd) (dss_one (dst_exp (de_mt PySem.F.slot_list_extend PySem.F.type_list_extend ext_ok (de_fld T.c_Towers T.n_Towers_pairs (de_name 0)) (da_cons ((do_lst (da_cons (de_tup (da_cons (de_tup (da_cons (de_name 8) (da_cons de_int da_nil))) (da_cons (de_op fdiv_ok (de_name 8) (de_name 3)) (da_cons de_int da_nil)))) (da_cons (de_tup (da_cons (de_tup (da_cons (de_name 8) (da_cons de_int da_nil))) (da_cons (de_op fdiv_ok (de_name 8) (de_name 3)) (da_cons de_int da_nil)))) da_nil)))).frz da_nil)))))
    (dss_cons (dst_fld T.c_Towers T.n_Towers_start (de_name 0) ((de_op mulE_ok (de_tup (da_cons de_int da_nil)) (de_op add_ok (de_callB len_ok T.z_len bt_len (da_cons (de_name 1) da_nil)) (de_callB len_ok T.z_len bt_len (da_cons (de_name 2) da_nil))))).rv)
    (dss_one (dst_exp ((do_meth0W T.c_Towers T.d_Towers_check_standings.M (ok_Towers_check_standings T) (hr.mono (by decide)) tk (de_name 0))).frz)))))))))))))))
theorem ok_Towers_apart (T : Tx K mg) : OkfW P w K mg base 4 (He.ma K (He.ga K "Towers") "apart") ["self"] (F_Towers_apart K w) :=
  T.d_Towers_apart.okW sc_Towers_apart 11 rfl fun cdv A outer s H E hr tk po =>
    (dss_cons (dst_new 1 sc_Towers_apart.nd (do_lst (da_cons (de_tup (da_cons (de_fld T.c_Towers T.n_Towers_start (de_name 0)) (da_cons ((do_lst da_nil)).frz da_nil))) da_nil)))
    (dss_cons (dst_new 2 sc_Towers_apart.nd (do_dicV1 (hu200 hr) (de_fld T.c_Towers T.n_Towers_start (de_name 0)) de_bl))
    (dss_cons (dst_set 3 sc_Towers_apart.nd de_int)
    (dss_cons (dst_while (fun _ _ => 5000) po (dt_cmp lt_ok (de_name 3) (de_callB len_ok T.z_len bt_len (da_cons (de_name 1) da_nil))) (dss_cons (dst_tgt (de_ix (de_name 1) (de_name 3)) (dg_tup 2 (dgs_cons (dg_name 4 sc_Towers_apart.nd) (dgs_cons (dg_name 5 sc_Towers_apart.nd) dgs_nil)) (gts_lenS (gts_lenS gts_len0))))
      (dss_cons (dst_forC po (di_cel (de_fld T.c_Towers T.n_Towers_pairs (de_name 0))) (dg_tup 3 (dgs_cons (dg_name 6 sc_Towers_apart.nd) (dgs_cons (dg_name 7 sc_Towers_apart.nd) (dgs_cons (dg_name 8 sc_Towers_apart.nd) dgs_nil))) (gts_lenS (gts_lenS (gts_lenS gts_len0)))) (dss_cons (dst_tgt ((do_methW T.c_Towers T.d_Towers_after.M (ok_Towers_after T) (hr.mono (by decide)) tk (de_name 0) (da_cons (de_name 4) (da_cons (de_name 7) (da_cons (de_name 8) da_nil))) (alenM (alenS (alenS (alenS alen0)))))).frz (dg_tup 3 (dgs_cons (dg_name 9 sc_Towers_apart.nd) (dgs_cons (dg_name 10 sc_Towers_apart.nd) (dgs_cons (dg_name 11 sc_Towers_apart.nd) dgs_nil))) (gts_lenS (gts_lenS (gts_lenS gts_len0)))))
        (dss_cons (dst_if (dt_cmp (ne_ok hr.units) (de_name 10) (de_name 11)) (dss_one (dst_ret ((de_op add_ok (de_name 5) ((do_lst (da_cons (de_name 6) da_nil))).frz)).rv)) dss_nil)
        (dss_one (dst_if (dt_ninV (hu200 hr) (de_name 9) (de_name 2)) (dss_cons (dst_subV (hu200 hr) de_bl (de_name 2) (de_name 9))
          (dss_one (dst_exp (de_mt PySem.F.slot_list_append PySem.F.type_list_append app_ok (de_name 1) (da_cons (de_tup (da_cons (de_name 9) (da_cons (de_op add_ok (de_name 5) ((do_lst (da_cons (de_name 6) da_nil))).frz) da_nil))) da_nil))))) dss_nil)))))
      (dss_one (dst_set 3 sc_Towers_apart.nd (de_op add_ok (de_name 3) de_int))))))
    (dss_one (dst_ret (de_non).rv))))))
theorem ok_towers_alike (T : Tx K mg) : Okf P w K mg base 8 "towers_alike" ["one", "two", "unit", "amounts"] (F_towers_alike K w) :=
  T.d_towers_alike.ok sc_towers_alike 2 rfl fun cdv A outer s H E hr tk po =>
    (dss_cons (dst_exp ((do_f (ok_check_tower T) (hr.mono (by decide)) tk (da_cons (de_name 0) da_nil) (alenS alen0))).frz)
    (dss_cons (dst_exp ((do_f (ok_check_tower T) (hr.mono (by decide)) tk (da_cons (de_name 1) da_nil) (alenS alen0))).frz)
    (dss_cons (dst_set 4 sc_towers_alike.nd (de_makeW T.k_Towers T.g_Towers (ok_Towers___init__ T) (hr.mono (by decide)) tk (da_cons (de_name 0) (da_cons (de_name 1) (da_cons (de_name 2) (da_cons (de_name 3) da_nil)))) (alenM (alenS (alenS (alenS (alenS alen0)))))))
    (dss_cons (dst_set 5 sc_towers_alike.nd ((do_meth0W T.c_Towers T.d_Towers_apart.M (ok_Towers_apart T) (hr.mono (by decide)) tk (de_name 4))).frz)
    (dss_cons (dst_if (dt_isn (de_name 5)) (dss_one (dst_ret ((de_tup (da_cons de_str (da_cons (de_callB (sortedT_ok (hu200 hr)) T.z_sorted bt_sorted (da_cons (de_fld T.c_Towers T.n_Towers_standings (de_name 4)) da_nil)) da_nil)))).rv)) dss_nil)
    (dss_one (dst_ret ((de_tup (da_cons de_str (da_cons (de_name 5) da_nil)))).rv)))))))
theorem ok_is_tower_paper (T : Tx K mg) : Okf P w K mg base 41 "is_tower_paper" ["one", "two", "unit", "amounts", "value"] (F_is_tower_paper K w) :=
  T.d_is_tower_paper.ok sc_is_tower_paper 1 rfl fun cdv A outer s H E hr tk po =>
    (dss_cons (dst_set 5 sc_is_tower_paper.nd ((do_f (ok_towers_alike T) (hr.mono (by decide)) tk (da_cons (de_name 0) (da_cons (de_name 1) (da_cons (de_name 2) (da_cons (de_name 3) da_nil)))) (alenS (alenS (alenS (alenS alen0)))))).frz)
    (dss_one (dst_ret ((de_and (de_cmp (eq_ok hr.units) (de_ix (de_name 5) de_int) de_str) (de_one ((do_f (ok_same T 40) (hr.mono (by decide)) tk (da_cons (de_name 4) (da_cons (de_ix (de_name 5) de_int) da_nil)) (alenS (alenS alen0)))).frz))).rv)))
theorem ok__law_mixed (T : Tx K mg) : Okf P w K mg base 1 "_law_mixed" ["number", "k"] F__law_mixed :=
  T.d__law_mixed.ok sc__law_mixed 1 rfl fun cdv A outer s H E hr tk po =>
    (dss_cons (dst_set 2 sc__law_mixed.nd (de_op mod_ok (de_op add_ok (de_op add_ok (de_op mul_ok (de_name 0) de_int) (de_op mul_ok (de_name 1) de_int)) de_int) de_int))
    (dss_one (dst_ret ((de_op mod_ok (de_op add_ok (de_op mul_ok (de_name 2) (de_op add_ok (de_op fdiv_ok (de_name 2) de_int) de_int)) (de_name 1)) de_int)).rv)))
theorem ok__law_numbers (T : Tx K mg) : Okf P w K mg base 2 "_law_numbers" ["script"] F__law_numbers :=
  T.d__law_numbers.ok sc__law_numbers 4 rfl fun cdv A outer s H E hr tk po =>
    (dss_cons (dst_new 1 sc__law_numbers.nd (do_lst da_nil))
    (dss_cons (dst_for po (di_any (de_name 0)) (dg_name 2 sc__law_numbers.nd) (dss_one (dst_if (dt_cmp ge_ok (de_name 2) (de_op pow_ok de_int de_int)) (dss_cons (dst_set 3 sc__law_numbers.nd (de_name 2))
        (dss_one (dst_for po (di_rng de_int T.z_range) (dg_name 4 sc__law_numbers.nd) (dss_one (dst_if (dt_cmp gt_ok (de_name 3) de_int) (dss_cons (dst_exp (de_mt PySem.F.slot_list_append PySem.F.type_list_append app_ok (de_name 1) (da_cons (de_op mod_ok (de_name 3) de_int) da_nil)))
            (dss_one (dst_set 3 sc__law_numbers.nd (de_op fdiv_ok (de_name 3) de_int)))) dss_nil))))) (dss_cons (dst_exp (de_mt PySem.F.slot_list_append PySem.F.type_list_append app_ok (de_name 1) (da_cons (de_op mod_ok (de_name 2) de_int) da_nil)))
        (dss_one (dst_for po (di_rng de_int T.z_range) (dg_name 4 sc__law_numbers.nd) (dss_one (dst_exp (de_mt PySem.F.slot_list_append PySem.F.type_list_append app_ok (de_name 1) (da_cons (de_op mod_ok ((do_f (ok__law_mixed T) (hr.mono (by decide)) tk (da_cons ((do_f (ok__law_mixed T) (hr.mono (by decide)) tk (da_cons (de_op mod_ok (de_name 2) de_int) (da_cons (de_name 4) da_nil)) (alenS (alenS alen0)))).frz (da_cons (de_op add_ok (de_name 4) de_int) da_nil)) (alenS (alenS alen0)))).frz de_int) da_nil))))))))))
    (dss_one (dst_ret ((de_name 1)).rv))))
theorem ok__law_draw (T : Tx K mg) : Okf P w K mg base 2 "_law_draw" ["draws"] F__law_draw :=
  T.d__law_draw.ok sc__law_draw 2 rfl fun cdv A outer s H E hr tk po =>
    (dss_cons (dst_set 1 sc__law_draw.nd (de_ix (de_name 0) de_int))
    (dss_cons (dst_sub (de_op add_ok (de_name 1) de_int) (de_name 0) de_int)
    (dss_cons (dst_if (dt_cmp lt_ok (de_name 1) (de_callB len_ok T.z_len bt_len (da_cons (de_ix (de_name 0) de_int) da_nil))) (dss_one (dst_ret ((de_ix (de_ix (de_name 0) de_int) (de_name 1))).rv)) dss_nil)
    (dss_cons (dst_set 2 sc__law_draw.nd (de_op add_ok de_int (de_name 1)))
    (dss_cons (dst_if (dt_cmp gt_ok (de_callB len_ok T.z_len bt_len (da_cons (de_ix (de_name 0) de_int) da_nil)) de_int) (dss_one (dst_set 2 sc__law_draw.nd (de_op add_ok (de_name 2) (de_op mul_ok de_int (de_ix (de_ix (de_name 0) de_int) de_int))))) dss_nil)
    (dss_one (dst_ret ((de_op mod_ok ((do_f (ok__law_mixed T) (hr.mono (by decide)) tk (da_cons ((do_f (ok__law_mixed T) (hr.mono (by decide)) tk (da_cons (de_name 2) (da_cons (de_name 1) da_nil)) (alenS (alenS alen0)))).frz (da_cons de_int da_nil)) (alenS (alenS alen0)))).frz de_int)).rv)))))))
theorem st_ok__law_all_equal {k : Nat} (hk : 0 ≤ k) {f__law_all_equal : List S → M Rv} {f__law_equal : List S → M Rv} (T : Tx K mg) (h__law_all_equal : Okf P w K mg base k "_law_all_equal" ["actual", "due"] f__law_all_equal) (h__law_equal : Okf P w K mg base k "_law_equal" ["actual", "due"] f__law_equal) : Okf P w K mg base (k + 1) "_law_all_equal" ["actual", "due"] (runG 1 (B__law_all_equal f__law_all_equal f__law_equal)) :=
  T.d__law_all_equal.ok sc__law_all_equal 1 rfl fun cdv A outer s H E hr tk po =>
    (dss_cons (dst_for po (di_rng (de_callB len_ok T.z_len bt_len (da_cons (de_name 1) da_nil)) T.z_range) (dg_name 2 sc__law_all_equal.nd) (dss_one (dst_if (dt_not (dt_tru ((do_f h__law_equal hr tk (da_cons (de_ix (de_name 0) (de_name 2)) (da_cons (de_ix (de_name 1) (de_name 2)) da_nil)) (alenS (alenS alen0)))).frz)) (dss_one (dst_ret (de_bl).rv)) dss_nil)))
    (dss_one (dst_ret (de_bl).rv)))
theorem st_ok__law_equal {k : Nat} (hk : 0 ≤ k) {f__law_all_equal : List S → M Rv} {f__law_equal : List S → M Rv} (T : Tx K mg) (h__law_all_equal : Okf P w K mg base k "_law_all_equal" ["actual", "due"] f__law_all_equal) (h__law_equal : Okf P w K mg base k "_law_equal" ["actual", "due"] f__law_equal) : Okf P w K mg base (k + 1) "_law_equal" ["actual", "due"] (runG 0 (B__law_equal f__law_all_equal f__law_equal)) :=
  T.d__law_equal.ok sc__law_equal 0 rfl fun cdv A outer s H E hr tk po =>
    (dss_cons (dst_if (dt_tru (de_isa (de_name 1) T.z_isinstance T.z_list (.inr (.inr (.inr (.inl rfl)))) bt_list)) (dss_cons (dst_if (dw_or (dt_not (dt_tru (de_isa (de_name 0) T.z_isinstance T.z_list (.inr (.inr (.inr (.inl rfl)))) bt_list))) (dw_or1 (dt_cmp (ne_ok hr.units) (de_callB len_ok T.z_len bt_len (da_cons (de_name 0) da_nil)) (de_callB len_ok T.z_len bt_len (da_cons (de_name 1) da_nil))))).dt (dss_one (dst_ret (de_bl).rv)) dss_nil)
      (dss_one (dst_ret (do_f h__law_all_equal hr tk (da_cons (de_name 0) (da_cons (de_name 1) da_nil)) (alenS (alenS alen0)))))) dss_nil)
    (dss_cons (dst_if (dt_tru (de_isa (de_name 1) T.z_isinstance T.z_tuple (.inr (.inr (.inr (.inr (.inl rfl))))) bt_tuple)) (dss_cons (dst_if (dw_or (dt_not (dt_tru (de_isa (de_name 0) T.z_isinstance T.z_tuple (.inr (.inr (.inr (.inr (.inl rfl))))) bt_tuple))) (dw_or1 (dt_cmp (ne_ok hr.units) (de_callB len_ok T.z_len bt_len (da_cons (de_name 0) da_nil)) (de_callB len_ok T.z_len bt_len (da_cons (de_name 1) da_nil))))).dt (dss_one (dst_ret (de_bl).rv)) dss_nil)
      (dss_one (dst_ret (do_f h__law_all_equal hr tk (da_cons (de_name 0) (da_cons (de_name 1) da_nil)) (alenS (alenS alen0)))))) dss_nil)
    (dss_cons (dst_if (dt_tru (de_isa (de_name 1) T.z_isinstance T.z_bool (.inr (.inl rfl)) bt_bool)) (dss_one (dst_ret ((de_and (de_isa (de_name 0) T.z_isinstance T.z_bool (.inr (.inl rfl)) bt_bool) (de_one (de_cmp (eq_ok hr.units) (de_name 0) (de_name 1))))).rv)) dss_nil)
    (dss_cons (dst_if (dt_tru (de_isa (de_name 1) T.z_isinstance T.z_int (.inl rfl) bt_int)) (dss_one (dst_ret ((de_and (de_isa (de_name 0) T.z_isinstance T.z_int (.inl rfl) bt_int) (de_and (de_not (de_isa (de_name 0) T.z_isinstance T.z_bool (.inr (.inl rfl)) bt_bool)) (de_one (de_cmp (eq_ok hr.units) (de_name 0) (de_name 1)))))).rv)) dss_nil)
    (dss_cons (dst_if (dt_tru (de_isa (de_name 1) T.z_isinstance T.z_str (.inr (.inr (.inl rfl))) bt_str)) (dss_one (dst_ret ((de_and (de_isa (de_name 0) T.z_isinstance T.z_str (.inr (.inr (.inl rfl))) bt_str) (de_one (de_cmp (eq_ok hr.units) (de_name 0) (de_name 1))))).rv)) dss_nil)
    (dss_one (dst_ret ((de_isn (de_name 0))).rv)))))))
theorem oks__law_all_equal__law_equal (T : Tx K mg) : ∀ n, Okf P w K mg base (0 + n) "_law_all_equal" ["actual", "due"] (F__law_all_equal n) ∧ Okf P w K mg base (0 + n) "_law_equal" ["actual", "due"] (F__law_equal n)
  | 0 => ⟨T.d__law_all_equal.ok0, T.d__law_equal.ok0⟩
  | n + 1 => have ih := oks__law_all_equal__law_equal T n; ⟨st_ok__law_all_equal (Nat.le_add_right _ _) T ih.1 ih.2, st_ok__law_equal (Nat.le_add_right _ _) T ih.1 ih.2⟩
theorem ok__law_equal (T : Tx K mg) (n : Nat) : Okf P w K mg base (0 + n) "_law_equal" ["actual", "due"] (F__law_equal n) := (oks__law_all_equal__law_equal T n).2
theorem ok__law_clip (T : Tx K mg) : Okf P w K mg base 1 "_law_clip" ["value", "pair"] F__law_clip :=
  T.d__law_clip.ok sc__law_clip 0 rfl fun cdv A outer s H E hr tk po =>
    (dss_one (dst_ret ((de_callB (min_ok rfl) T.z_min bt_min (da_cons (de_callB (max_ok rfl) T.z_max bt_max (da_cons (de_op sub_ok (de_name 0) (de_ix (de_name 1) de_int)) (da_cons de_int da_nil))) (da_cons (de_ix (de_name 1) de_int) da_nil)))).rv))
theorem ok__law_layer (T : Tx K mg) : Okf P w K mg base 1 "_law_layer" ["kind"] F__law_layer :=
  T.d__law_layer.ok sc__law_layer 0 rfl fun cdv A outer s H E hr tk po =>
    (dss_one (dst_ret ((de_if (dt_cmp (eq_ok hr.units) (de_ix (de_name 0) de_int) de_str) (de_tup (da_cons (de_op mul_ok (de_ix (de_name 0) de_int) (de_op add_ok de_int (de_ix (de_name 0) de_int))) (da_cons (de_ix (de_name 0) de_int) da_nil))) (de_tup (da_cons (de_ix (de_name 0) de_int) (da_cons (de_ix (de_name 0) de_int) da_nil))))).rv))
theorem ok__law_take (T : Tx K mg) : Okf P w K mg base 2 "_law_take" ["tower", "sums", "amount", "begins"] F__law_take :=
  T.d__law_take.ok sc__law_take 4 rfl fun cdv A outer s H E hr tk po =>
    (dss_cons (dst_new 4 sc__law_take.nd (do_lst da_nil))
    (dss_cons (dst_for po (di_rng (de_callB len_ok T.z_len bt_len (da_cons (de_name 0) da_nil)) T.z_range) (dg_name 5 sc__law_take.nd) (dss_cons (dst_set 6 sc__law_take.nd ((do_f (ok__law_layer T) (hr.mono (by decide)) tk (da_cons (de_ix (de_name 0) (de_name 5)) da_nil) (alenS alen0))).frz)
      (dss_cons (dst_set 7 sc__law_take.nd (de_ix (de_name 1) (de_name 5)))
      (dss_cons (dst_if (dw_or (dt_cmp (eq_ok hr.units) (de_ix (de_ix (de_name 0) (de_name 5)) de_int) de_str) (dw_or1 (dw_and (dt_cmp (eq_ok hr.units) (de_ix (de_ix (de_name 0) (de_name 5)) de_int) de_str) (dw_and1 (dt_cmp (eq_ok hr.units) (de_name 3) de_int))).dt)).dt (dss_one (dst_set 7 sc__law_take.nd de_int)) dss_nil)
      (dss_cons (dst_exp (de_mt PySem.F.slot_list_append PySem.F.type_list_append app_ok (de_name 4) (da_cons (de_if (dt_cmp (eq_ok hr.units) (de_ix (de_ix (de_name 0) (de_name 5)) de_int) de_str) de_int (de_op add_ok (de_name 7) (de_name 2))) da_nil)))
      (dss_one (dst_set 2 sc__law_take.nd (de_op sub_ok (de_name 2) (de_op sub_ok ((do_f (ok__law_clip T) (hr.mono (by decide)) tk (da_cons (de_op add_ok (de_name 7) (de_name 2)) (da_cons (de_name 6) da_nil)) (alenS (alenS alen0)))).frz ((do_f (ok__law_clip T) (hr.mono (by decide)) tk (da_cons (de_name 7) (da_cons (de_name 6) da_nil)) (alenS (alenS alen0)))).frz)))))))))
    (dss_one (dst_ret (do_cp (de_name 4) (de_name 2))))))
theorem ok__law_cut (T : Tx K mg) : Okf P w K mg base 2 "_law_cut" ["tower", "sums", "unit"] F__law_cut :=
  T.d__law_cut.ok sc__law_cut 1 rfl fun cdv A outer s H E hr tk po =>
    (dss_one (dst_ret ((de_callT tuple_ok T.z_tuple bt_tuple (da_cons ((do_lc [("k", 3)] sc__law_cut.nd (di_rng (de_callB len_ok T.z_len bt_len (da_cons (de_name 0) da_nil)) T.z_range) (fun _ _ _ _ _ => (dgb_name 3 sc__law_cut.nd)) (fun _ _ _ _ _ => dts_nil) (fun _ _ _ _ _ => (de_op fdiv_ok (de_callB (min_ok rfl) T.z_min bt_min (da_cons (de_ix (de_name 1) (de_name 3)) (da_cons (de_callB (sum_ok rfl) T.z_sum bt_sum (da_cons ((do_f (ok__law_layer T) (hr.mono (by decide)) takesWf (da_cons (de_ix (de_name 0) (de_name 3)) da_nil) (alenS alen0))).frz da_nil)) da_nil))) (de_name 2))))).frz da_nil))).rv))
theorem ok__law_walk (T : Tx K mg) : Okf P w K mg base 3 "_law_walk" ["one", "two", "unit", "amounts"] (F__law_walk K w) :=
  T.d__law_walk.ok sc__law_walk 13 rfl fun cdv A outer s H E hr tk po =>
    (dss_cons (dst_set 4 sc__law_walk.nd (de_tup (da_cons (de_op mulE_ok (de_tup (da_cons de_int da_nil)) (de_callB len_ok T.z_len bt_len (da_cons (de_name 0) da_nil))) (da_cons (de_op mulE_ok (de_tup (da_cons de_int da_nil)) (de_callB len_ok T.z_len bt_len (da_cons (de_name 1) da_nil))) da_nil))))
    (dss_cons (dst_new 5 sc__law_walk.nd (do_lst (da_cons (de_tup (da_cons (de_name 4) (da_cons ((do_lst da_nil)).frz da_nil))) da_nil)))
    (dss_cons (dst_new 6 sc__law_walk.nd do_dicV)
    (dss_cons (dst_subV (hu200 hr) de_bl (de_name 6) (de_op add_ok (de_ix (de_name 4) de_int) (de_ix (de_name 4) de_int)))
    (dss_cons (dst_for po (di_rng de_int T.z_range) (dg_name 7 sc__law_walk.nd) (dss_cons (dst_if (dt_cmp (eq_ok hr.units) (de_name 7) (de_callB len_ok T.z_len bt_len (da_cons (de_name 5) da_nil))) (dss_one (dst_ret (do_lst (da_cons de_str (da_cons (de_callB (sortedT_ok (hu200 hr)) T.z_sorted bt_sorted (da_cons ((do_keysV 15 [("standing", 15)] sc__law_walk.nd (de_name 6) (fun _ _ _ _ _ => (dgb_name 15 sc__law_walk.nd)) (fun _ _ _ _ _ => (de_name 15)))).frz da_nil)) da_nil))))) dss_nil)
      (dss_cons (dst_tgt (de_ix (de_name 5) (de_name 7)) (dg_tup 2 (dgs_cons (dg_name 8 sc__law_walk.nd) (dgs_cons (dg_name 9 sc__law_walk.nd) dgs_nil)) (gts_lenS (gts_lenS gts_len0))))
      (dss_one (dst_for po (di_any (de_name 3)) (dg_name 10 sc__law_walk.nd) (dss_one (dst_for po (di_any (de_if (dt_cmp gt_ok (de_callB len_ok T.z_len bt_len (da_cons (de_name 9) da_nil)) de_int) ((do_lst (da_cons de_int (da_cons de_int da_nil)))).frz ((do_lst (da_cons de_int da_nil))).frz)) (dg_name 11 sc__law_walk.nd) (dss_cons (dst_set 12 sc__law_walk.nd ((do_f (ok__law_take T) (hr.mono (by decide)) tk (da_cons (de_name 0) (da_cons ((do_lc [("number", 16)] sc__law_walk.nd (di_any (de_ix (de_name 8) de_int)) (fun _ _ _ _ _ => (dgb_name 16 sc__law_walk.nd)) (fun _ _ _ _ _ => dts_nil) (fun _ _ _ _ _ => (de_op mul_ok (de_name 2) (de_name 16))))).frz (da_cons (de_name 10) (da_cons (de_name 11) da_nil)))) (alenS (alenS (alenS (alenS alen0)))))).frz)
          (dss_cons (dst_set 13 sc__law_walk.nd ((do_f (ok__law_take T) (hr.mono (by decide)) tk (da_cons (de_name 1) (da_cons ((do_lc [("number", 16)] sc__law_walk.nd (di_any (de_ix (de_name 8) de_int)) (fun _ _ _ _ _ => (dgb_name 16 sc__law_walk.nd)) (fun _ _ _ _ _ => dts_nil) (fun _ _ _ _ _ => (de_op mul_ok (de_name 2) (de_name 16))))).frz (da_cons (de_name 10) (da_cons (de_name 11) da_nil)))) (alenS (alenS (alenS (alenS alen0)))))).frz)
          (dss_cons (dst_if (dt_cmp (ne_ok hr.units) (de_ix (de_name 12) de_int) (de_ix (de_name 13) de_int)) (dss_one (dst_ret (do_lst (da_cons de_str (da_cons (de_op add_ok (de_name 9) ((do_lst (da_cons (de_tup (da_cons (de_name 10) (da_cons (de_name 11) da_nil))) da_nil))).frz) da_nil))))) dss_nil)
          (dss_cons (dst_set 14 sc__law_walk.nd (de_tup (da_cons ((do_f (ok__law_cut T) (hr.mono (by decide)) tk (da_cons (de_name 0) (da_cons (de_ix (de_name 12) de_int) (da_cons (de_name 2) da_nil))) (alenS (alenS (alenS alen0))))).frz (da_cons ((do_f (ok__law_cut T) (hr.mono (by decide)) tk (da_cons (de_name 1) (da_cons (de_ix (de_name 13) de_int) (da_cons (de_name 2) da_nil))) (alenS (alenS (alenS alen0))))).frz da_nil))))
          (dss_one (dst_if (dt_ninV (hu200 hr) (de_op add_ok (de_ix (de_name 14) de_int) (de_ix (de_name 14) de_int)) (de_name 6)) (dss_cons (dst_subV (hu200 hr) de_bl (de_name 6) (de_op add_ok (de_ix (de_name 14) de_int) (de_ix (de_name 14) de_int)))
            (dss_one (dst_exp (de_mt PySem.F.slot_list_append PySem.F.type_list_append app_ok (de_name 5) (da_cons (de_tup (da_cons (de_name 14) (da_cons (de_op add_ok (de_name 9) ((do_lst (da_cons (de_tup (da_cons (de_name 10) (da_cons (de_name 11) da_nil))) da_nil))).frz) da_nil))) da_nil))))) dss_nil)))))))))))))
    (dss_one (dst_ret (do_lst (da_cons de_str da_nil)))))))))
theorem ok__law_kind (T : Tx K mg) : Okf P w K mg base 3 "_law_kind" ["draws", "unit"] F__law_kind :=
  T.d__law_kind.ok sc__law_kind 2 rfl fun cdv A outer s H E hr tk po =>
    (dss_cons (dst_par 2 3 sc__law_kind.nd (de_op mul_ok (de_name 1) (de_op mod_ok ((do_fC (ok__law_draw T) (hr.mono (by decide)) tk (da_cons (de_name 0) da_nil) (alenS alen0))).frz de_int)) (de_op mul_ok (de_name 1) (de_op mod_ok ((do_fC (ok__law_draw T) (hr.mono (by decide)) tk (da_cons (de_name 0) da_nil) (alenS alen0))).frz de_int)))
    (dss_one (dst_ret ((de_ix ((do_lst (da_cons (de_tup (da_cons de_str (da_cons (de_name 2) (da_cons (de_name 3) da_nil)))) (da_cons (de_tup (da_cons de_str (da_cons (de_name 2) (da_cons (de_name 3) da_nil)))) (da_cons (de_tup (da_cons de_str (da_cons (de_name 2) (da_cons (de_name 3) (da_cons (de_op mod_ok ((do_fC (ok__law_draw T) (hr.mono (by decide)) tk (da_cons (de_name 0) da_nil) (alenS alen0))).frz de_int) (da_cons de_int da_nil)))))) (da_cons (de_tup (da_cons de_str (da_cons (de_name 2) (da_cons (de_name 3) da_nil)))) da_nil)))))).frz (de_op mod_ok ((do_fC (ok__law_draw T) (hr.mono (by decide)) tk (da_cons (de_name 0) da_nil) (alenS alen0))).frz de_int))).rv)))
theorem ok__law_towers (T : Tx K mg) : Okf P w K mg base 4 "_law_towers" ["draws", "unit"] F__law_towers :=
  T.d__law_towers.ok sc__law_towers 6 rfl fun cdv A outer s H E hr tk po =>
    (dss_cons (dst_set 2 sc__law_towers.nd (de_callT tuple_ok T.z_tuple bt_tuple (da_cons ((do_lc [("k", 7)] sc__law_towers.nd (di_rng (de_op mod_ok ((do_fC (ok__law_draw T) (hr.mono (by decide)) tk (da_cons (de_name 0) da_nil) (alenS alen0))).frz de_int) T.z_range) (fun _ _ _ _ _ => (dgb_name 7 sc__law_towers.nd)) (fun _ _ _ _ _ => dts_nil) (fun _ _ _ _ _ => ((do_fC (ok__law_kind T) (hr.mono (by decide)) takesWf (da_cons (de_name 0) (da_cons (de_name 1) da_nil)) (alenS (alenS alen0)))).frz))).frz da_nil)))
    (dss_cons (dst_set 3 sc__law_towers.nd (de_op mod_ok ((do_fC (ok__law_draw T) (hr.mono (by decide)) tk (da_cons (de_name 0) da_nil) (alenS alen0))).frz de_int))
    (dss_cons (dst_if (dw_or (dt_cmp (eq_ok hr.units) (de_name 3) de_int) (dw_or1 (dt_cmp (eq_ok hr.units) (de_callB len_ok T.z_len bt_len (da_cons (de_name 2) da_nil)) de_int))).dt (dss_one (dst_ret (do_lst (da_cons (de_name 2) (da_cons (de_callT tuple_ok T.z_tuple bt_tuple (da_cons ((do_lc [("k", 7)] sc__law_towers.nd (di_rng (de_op mod_ok ((do_fC (ok__law_draw T) (hr.mono (by decide)) tk (da_cons (de_name 0) da_nil) (alenS alen0))).frz de_int) T.z_range) (fun _ _ _ _ _ => (dgb_name 7 sc__law_towers.nd)) (fun _ _ _ _ _ => dts_nil) (fun _ _ _ _ _ => ((do_fC (ok__law_kind T) (hr.mono (by decide)) takesWf (da_cons (de_name 0) (da_cons (de_name 1) da_nil)) (alenS (alenS alen0)))).frz))).frz da_nil)) da_nil))))) dss_nil)
    (dss_cons (dst_set 4 sc__law_towers.nd (de_op mod_ok ((do_fC (ok__law_draw T) (hr.mono (by decide)) tk (da_cons (de_name 0) da_nil) (alenS alen0))).frz (de_callB len_ok T.z_len bt_len (da_cons (de_name 2) da_nil))))
    (dss_cons (dst_set 5 sc__law_towers.nd (de_ix (de_name 2) (de_name 4)))
    (dss_cons (dst_if (dt_cmp (eq_ok hr.units) (de_name 3) de_int) (dss_one (dst_ret (do_lst (da_cons (de_name 2) (da_cons (de_revT (de_name 2)) da_nil))))) dss_nil)
    (dss_cons (dst_if (dt_cmp (eq_ok hr.units) (de_name 3) de_int) (dss_one (dst_ret (do_lst (da_cons (de_name 2) (da_cons (de_op add_ok (de_op add_ok (de_sl (de_name 2) dpo_none (dpo_some (de_name 4))) (de_sl (de_name 2) (dpo_some (de_op add_ok (de_name 4) de_int)) dpo_none)) (de_tup (da_cons (de_name 5) da_nil))) da_nil))))) dss_nil)
    (dss_cons (dst_if (dw_and (dt_cmp (eq_ok hr.units) (de_name 3) de_int) (dw_and1 (dt_cmp (ne_ok hr.units) (de_ix (de_name 5) de_int) de_str))).dt (dss_cons (dst_set 6 sc__law_towers.nd (de_op mul_ok (de_op fdiv_ok (de_op fdiv_ok (de_ix (de_name 5) de_int) (de_name 1)) de_int) (de_name 1)))
      (dss_one (dst_ret (do_lst (da_cons (de_name 2) (da_cons (de_op add_ok (de_op add_ok (de_sl (de_name 2) dpo_none (dpo_some (de_name 4))) (de_tup (da_cons (de_tup (da_cons (de_ix (de_name 5) de_int) (da_cons (de_name 6) (da_cons (de_ix (de_name 5) de_int) da_nil)))) (da_cons (de_tup (da_cons (de_ix (de_name 5) de_int) (da_cons (de_op sub_ok (de_ix (de_name 5) de_int) (de_name 6)) (da_cons (de_ix (de_name 5) de_int) da_nil)))) da_nil)))) (de_sl (de_name 2) (dpo_some (de_op add_ok (de_name 4) de_int)) dpo_none)) da_nil)))))) dss_nil)
    (dss_cons (dst_if (dt_cmp (eq_ok hr.units) (de_name 3) de_int) (dss_one (dst_ret (do_lst (da_cons (de_name 2) (da_cons (de_op add_ok (de_op add_ok (de_sl (de_name 2) dpo_none (dpo_some (de_name 4))) (de_op mulE_ok (de_tup (da_cons (de_tup (da_cons (de_ix (de_name 5) de_int) (da_cons de_int (da_cons (de_name 1) da_nil)))) da_nil)) (de_callT int_ok T.z_int bt_int (da_cons (de_cmp (ne_ok hr.units) (de_ix (de_name 5) de_int) de_str) da_nil)))) (de_sl (de_name 2) (dpo_some (de_name 4)) dpo_none)) da_nil))))) dss_nil)
    (dss_one (dst_ret (do_lst (da_cons (de_name 2) (da_cons (de_op add_ok (de_op add_ok (de_sl (de_name 2) dpo_none (dpo_some (de_name 4))) (de_tup (da_cons (de_op add_ok (de_op add_ok (de_sl (de_name 5) dpo_none (dpo_some de_int)) (de_tup (da_cons (de_op add_ok (de_ix (de_name 5) de_int) (de_name 1)) da_nil))) (de_sl (de_name 5) (dpo_some de_int) dpo_none)) da_nil))) (de_sl (de_name 2) (dpo_some (de_op add_ok (de_name 4) de_int)) dpo_none)) da_nil))))))))))))))
theorem ok__law_amounts (T : Tx K mg) : Okf P w K mg base 3 "_law_amounts" ["draws", "unit"] F__law_amounts :=
  T.d__law_amounts.ok sc__law_amounts 1 rfl fun cdv A outer s H E hr tk po =>
    (dss_one (dst_ret ((de_callT tuple_ok T.z_tuple bt_tuple (da_cons (de_sortedSet T.z_sorted T.z_set ((do_lc [("k", 2)] sc__law_amounts.nd (di_rng (de_op add_ok de_int (de_op mod_ok ((do_fC (ok__law_draw T) (hr.mono (by decide)) tk (da_cons (de_name 0) da_nil) (alenS alen0))).frz de_int)) T.z_range) (fun _ _ _ _ _ => (dgb_name 2 sc__law_amounts.nd)) (fun _ _ _ _ _ => dts_nil) (fun _ _ _ _ _ => (de_op mul_ok (de_name 1) (de_op add_ok de_int (de_op mod_ok ((do_fC (ok__law_draw T) (hr.mono (by decide)) takesWf (da_cons (de_name 0) da_nil) (alenS alen0))).frz de_int)))))).frz) da_nil))).rv))
theorem ok__law_all_standings (T : Tx K mg) : Okf P w K mg base 3 "_law_all_standings" ["one", "two", "unit", "amounts"] (F__law_all_standings K w) :=
  T.d__law_all_standings.ok sc__law_all_standings 11 rfl fun cdv A outer s H E hr tk po =>
    (dss_cons (dst_set 4 sc__law_all_standings.nd (de_tup (da_cons (de_op mulE_ok (de_tup (da_cons de_int da_nil)) (de_callB len_ok T.z_len bt_len (da_cons (de_name 0) da_nil))) (da_cons (de_op mulE_ok (de_tup (da_cons de_int da_nil)) (de_callB len_ok T.z_len bt_len (da_cons (de_name 1) da_nil))) da_nil))))
    (dss_cons (dst_new 5 sc__law_all_standings.nd (do_lst (da_cons (de_name 4) da_nil)))
    (dss_cons (dst_new 6 sc__law_all_standings.nd do_dicV)
    (dss_cons (dst_subV (hu200 hr) de_bl (de_name 6) (de_op add_ok (de_ix (de_name 4) de_int) (de_ix (de_name 4) de_int)))
    (dss_cons (dst_for po (di_rng de_int T.z_range) (dg_name 7 sc__law_all_standings.nd) (dss_cons (dst_if (dt_cmp (eq_ok hr.units) (de_name 7) (de_callB len_ok T.z_len bt_len (da_cons (de_name 5) da_nil))) (dss_one (dst_ret ((de_callB (sortedT_ok (hu200 hr)) T.z_sorted bt_sorted (da_cons ((do_keysV 13 [("standing", 13)] sc__law_all_standings.nd (de_name 6) (fun _ _ _ _ _ => (dgb_name 13 sc__law_all_standings.nd)) (fun _ _ _ _ _ => (de_name 13)))).frz da_nil))).rv)) dss_nil)
      (dss_one (dst_for po (di_any (de_name 3)) (dg_name 8 sc__law_all_standings.nd) (dss_one (dst_for po (di_any (de_tup (da_cons de_int (da_cons de_int da_nil)))) (dg_name 9 sc__law_all_standings.nd) (dss_cons (dst_set 10 sc__law_all_standings.nd ((do_f (ok__law_take T) (hr.mono (by decide)) tk (da_cons (de_name 0) (da_cons ((do_lc [("number", 14)] sc__law_all_standings.nd (di_any (de_ix (de_ix (de_name 5) (de_name 7)) de_int)) (fun _ _ _ _ _ => (dgb_name 14 sc__law_all_standings.nd)) (fun _ _ _ _ _ => dts_nil) (fun _ _ _ _ _ => (de_op mul_ok (de_name 2) (de_name 14))))).frz (da_cons (de_name 8) (da_cons (de_name 9) da_nil)))) (alenS (alenS (alenS (alenS alen0)))))).frz)
          (dss_cons (dst_set 11 sc__law_all_standings.nd ((do_f (ok__law_take T) (hr.mono (by decide)) tk (da_cons (de_name 1) (da_cons ((do_lc [("number", 14)] sc__law_all_standings.nd (di_any (de_ix (de_ix (de_name 5) (de_name 7)) de_int)) (fun _ _ _ _ _ => (dgb_name 14 sc__law_all_standings.nd)) (fun _ _ _ _ _ => dts_nil) (fun _ _ _ _ _ => (de_op mul_ok (de_name 2) (de_name 14))))).frz (da_cons (de_name 8) (da_cons (de_name 9) da_nil)))) (alenS (alenS (alenS (alenS alen0)))))).frz)
          (dss_cons (dst_set 12 sc__law_all_standings.nd (de_tup (da_cons ((do_f (ok__law_cut T) (hr.mono (by decide)) tk (da_cons (de_name 0) (da_cons (de_ix (de_name 10) de_int) (da_cons (de_name 2) da_nil))) (alenS (alenS (alenS alen0))))).frz (da_cons ((do_f (ok__law_cut T) (hr.mono (by decide)) tk (da_cons (de_name 1) (da_cons (de_ix (de_name 11) de_int) (da_cons (de_name 2) da_nil))) (alenS (alenS (alenS alen0))))).frz da_nil))))
          (dss_one (dst_if (dt_ninV (hu200 hr) (de_op add_ok (de_ix (de_name 12) de_int) (de_ix (de_name 12) de_int)) (de_name 6)) (dss_cons (dst_subV (hu200 hr) de_bl (de_name 6) (de_op add_ok (de_ix (de_name 12) de_int) (de_ix (de_name 12) de_int)))
            (dss_one (dst_exp (de_mt PySem.F.slot_list_append PySem.F.type_list_append app_ok (de_name 5) (da_cons (de_name 12) da_nil))))) dss_nil)))))))))))
    (dss_one (dst_ret (de_non).rv)))))))
theorem ok__law_spoilt (T : Tx K mg) : Okf P w K mg base 3 "_law_spoilt" ["draws", "paper"] F__law_spoilt :=
  T.d__law_spoilt.ok sc__law_spoilt 2 rfl fun cdv A outer s H E hr tk po =>
    (dss_cons (dst_new 1 sc__law_spoilt.nd (do_listO T.z_list bt_list (de_name 1)))
    (dss_cons (dst_set 2 sc__law_spoilt.nd (de_op mod_ok ((do_fC (ok__law_draw T) (hr.mono (by decide)) tk (da_cons (de_name 0) da_nil) (alenS alen0))).frz (de_callB len_ok T.z_len bt_len (da_cons (de_name 1) da_nil))))
    (dss_cons (dst_set 3 sc__law_spoilt.nd (de_op mod_ok ((do_fC (ok__law_draw T) (hr.mono (by decide)) tk (da_cons (de_name 0) da_nil) (alenS alen0))).frz de_int))
    (dss_cons (dst_if (dt_cmp (eq_ok hr.units) (de_name 3) de_int) (dss_one (dst_ret ((de_op add_ok (de_sl (de_name 1) dpo_none (dpo_some (de_name 2))) (de_sl (de_name 1) (dpo_some (de_op add_ok (de_name 2) de_int)) dpo_none))).rv)) dss_nil)
    (dss_cons (dst_if (dt_cmp (eq_ok hr.units) (de_name 3) de_int) (dss_one (dst_ret ((de_op add_ok (de_op add_ok (de_sl (de_name 1) dpo_none (dpo_some (de_name 2))) (de_sl (de_name 1) (dpo_some (de_name 2)) (dpo_some (de_op add_ok (de_name 2) de_int)))) (de_sl (de_name 1) (dpo_some (de_name 2)) dpo_none))).rv)) dss_nil)
    (dss_cons (dst_if (dt_cmp (eq_ok hr.units) (de_name 3) de_int) (dss_one (dst_ret ((de_rev (de_name 1))).rv)) dss_nil)
    (dss_cons (dst_if (dt_cmp (eq_ok hr.units) (de_name 3) de_int) (dss_one (dst_ret ((de_callT tuple_ok T.z_tuple bt_tuple (da_cons (de_name 1) da_nil))).rv)) dss_nil)
    (dss_cons (dst_if (dw_and (dt_cmp (eq_ok hr.units) (de_name 3) de_int) (dw_and1 (dt_cmp gt_ok (de_callB len_ok T.z_len bt_len (da_cons (de_ix (de_name 1) (de_name 2)) da_nil)) de_int))).dt (dss_one (dst_sub (de_op add_ok (de_sl (de_ix (de_name 1) (de_name 2)) dpo_none (dpo_some (de_neg de_int))) (de_tup (da_cons (de_op add_ok (de_ix (de_ix (de_name 1) (de_name 2)) (de_op sub_ok (de_callB len_ok T.z_len bt_len (da_cons (de_ix (de_name 1) (de_name 2)) da_nil)) de_int)) de_int) da_nil))) (de_name 1) (de_name 2))) dss_nil)
    (dss_cons (dst_if (dt_cmp (eq_ok hr.units) (de_name 3) de_int) (dss_one (dst_ret ((de_ix ((do_lst (da_cons de_non (da_cons de_int (da_cons ((do_lst da_nil)).frz (da_cons ((do_lst (da_cons ((do_lst da_nil)).frz da_nil))).frz (da_cons de_dicE da_nil))))))).frz (de_op mod_ok ((do_fC (ok__law_draw T) (hr.mono (by decide)) tk (da_cons (de_name 0) da_nil) (alenS alen0))).frz de_int))).rv)) dss_nil)
    (dss_cons (dst_if (dt_cmp (eq_ok hr.units) (de_name 3) de_int) (dss_one (dst_sub (de_callT list_ok T.z_list bt_list (da_cons (de_ix (de_name 1) (de_name 2)) da_nil)) (de_name 1) (de_name 2))) dss_nil)
    (dss_cons (dst_if (dw_and (dt_cmp (eq_ok hr.units) (de_name 3) de_int) (dw_and1 (dt_cmp gt_ok (de_callB len_ok T.z_len bt_len (da_cons (de_ix (de_name 1) (de_name 2)) da_nil)) de_int))).dt (dss_one (dst_sub (de_op add_ok (de_tup (da_cons (de_callT bool_ok T.z_bool bt_bool (da_cons (de_ix (de_ix (de_name 1) (de_name 2)) de_int) da_nil)) da_nil)) (de_sl (de_ix (de_name 1) (de_name 2)) (dpo_some de_int) dpo_none)) (de_name 1) (de_name 2))) dss_nil)
    (dss_one (dst_ret ((de_name 1)).rv)))))))))))))
theorem law_fn {fd : FuncData} (T : Tx K mg) (Fd : FunD K "law" "law" (defArgs st_law) (defBody st_law) (defScope st_law) [] [] (He.ga K "law") fd) : FnG P w K mg base 42 (He.ga K "law") fd ["script"] (spE mg 1 (F_law K w)) :=
  def_okG Fd sc_law 10 rfl fun cdv A outer s H E hg hr tk po =>
    (dss_cons (dst_new 1 sc_law.nd (do_lst (da_cons ((do_f (ok__law_numbers T) (hr.mono (by decide)) tk (da_cons (de_name 0) da_nil) (alenS alen0))).frz (da_cons de_int da_nil))))
    (dss_cons (dst_for po (di_rng de_int T.z_range) (dg_name 2 sc_law.nd) (dss_cons (dst_set 3 sc_law.nd (de_ix ((do_lst (da_cons de_int (da_cons de_int (da_cons de_int (da_cons (de_op pow_ok de_int de_int) da_nil)))))).frz (de_op mod_ok ((do_fC (ok__law_draw T) (hr.mono (by decide)) tk (da_cons (de_name 1) da_nil) (alenS alen0))).frz de_int)))
      (dss_cons (dst_tgt ((do_fC (ok__law_towers T) (hr.mono (by decide)) tk (da_cons (de_name 1) (da_cons (de_name 3) da_nil)) (alenS (alenS alen0)))).frz (dg_lst 2 (dgs_cons (dg_name 4 sc_law.nd) (dgs_cons (dg_name 5 sc_law.nd) dgs_nil)) (gts_lenS (gts_lenS gts_len0))))
      (dss_cons (dst_set 6 sc_law.nd ((do_fC (ok__law_amounts T) (hr.mono (by decide)) tk (da_cons (de_name 1) (da_cons (de_name 3) da_nil)) (alenS (alenS alen0)))).frz)
      (dss_cons (dst_new 7 sc_law.nd (do_f (ok__law_all_standings T) (hr.mono (by decide)) tk (da_cons (de_name 4) (da_cons (de_name 5) (da_cons (de_name 3) (da_cons (de_name 6) da_nil)))) (alenS (alenS (alenS (alenS alen0))))))
      (dss_cons (dst_if (dt_isn (de_name 7)) (dss_one dst_con) dss_nil)
      (dss_cons (dst_set 8 sc_law.nd (de_cmp (eq_ok hr.units) (de_ix ((do_f (ok__law_walk T) (hr.mono (by decide)) tk (da_cons (de_name 4) (da_cons (de_name 5) (da_cons (de_name 3) (da_cons (de_name 6) da_nil)))) (alenS (alenS (alenS (alenS alen0)))))).frz de_int) de_str))
      (dss_cons (dst_if (dt_not (dt_tru ((do_f (ok__law_equal T 40) (hr.mono (by decide)) tk (da_cons ((do_f (ok_is_tower_paper T) (hr.mono (by decide)) tk (da_cons (de_name 4) (da_cons (de_name 5) (da_cons (de_name 3) (da_cons (de_name 6) (da_cons (de_callT list_ok T.z_list bt_list (da_cons (de_name 7) da_nil)) da_nil))))) (alenS (alenS (alenS (alenS (alenS alen0))))))).frz (da_cons (de_name 8) da_nil)) (alenS (alenS alen0)))).frz)) (dss_one (dst_ret (de_bl).rv)) dss_nil)
      (dss_one (dst_for po (di_rng de_int T.z_range) (dg_name 9 sc_law.nd) (dss_cons (dst_set 10 sc_law.nd ((do_fA (ok__law_spoilt T) (hr.mono (by decide)) tk (da_cons (de_name 1) (da_cons (de_name 7) da_nil)) (alenS (alenS alen0)))).frz)
        (dss_one (dst_if (dt_not (dt_tru ((do_f (ok__law_equal T 40) (hr.mono (by decide)) tk (da_cons ((do_f (ok_is_tower_paper T) (hr.mono (by decide)) tk (da_cons (de_name 4) (da_cons (de_name 5) (da_cons (de_name 3) (da_cons (de_name 6) (da_cons (de_name 10) da_nil))))) (alenS (alenS (alenS (alenS (alenS alen0))))))).frz (da_cons (de_and (de_name 8) (de_one ((do_fV (ok__law_equal T 40) (hr.mono (by decide)) tk (da_cons (de_name 10) (da_cons (de_name 7) da_nil)) (alenS (alenS alen0)))).frz)) da_nil)) (alenS (alenS alen0)))).frz)) (dss_one (dst_ret (de_bl).rv)) dss_nil)))))))))))))
    (dss_one (dst_ret (de_bl).rv))))
end
end Law

set_option Elab.async false
set_option linter.all false
set_option maxRecDepth 100000
set_option maxHeartbeats 4000000
namespace Law
open PySem L2 Dn
theorem tx_of {K : PySem.W.Frag} {mg : PySem.Str → Option Value} {h : Heap} (X : K.In h) (G : h.Ns mainGlobals mg) (c : He.SaysD fan fnn K) (cb : fbn K = true) : Tx K mg where
  z_bool := He.free_ok X G (c.fact 39 rfl)
  z_int := He.free_ok X G (c.fact 40 rfl)
  z_isinstance := He.free_ok X G (c.fact 41 rfl)
  z_len := He.free_ok X G (c.fact 42 rfl)
  z_list := He.free_ok X G (c.fact 43 rfl)
  z_max := He.free_ok X G (c.fact 44 rfl)
  z_min := He.free_ok X G (c.fact 45 rfl)
  z_range := He.free_ok X G (c.fact 46 rfl)
  z_set := He.free_ok X G (c.fact 47 rfl)
  z_sorted := He.free_ok X G (c.fact 48 rfl)
  z_str := He.free_ok X G (c.fact 49 rfl)
  z_sum := He.free_ok X G (c.fact 50 rfl)
  z_tuple := He.free_ok X G (c.fact 51 rfl)
  m_MONEY := He.int_ok X G (c.fact 52 rfl)
  m_MOST_STANDINGS := He.int_ok X G (c.fact 53 rfl)
  x_WhatbefellError := exf_of X G c 54 55 rfl rfl
  x_BadArgument := exf_of X G c 56 57 rfl rfl
  x_TooLarge := exf_of X G c 58 59 rfl rfl
  g_Towers := He.glo_ok X G (c.fact 31 rfl)
  c_Towers := He.cls_ok (c.fact 32 rfl)
  k_Towers := He.mkr_ok (c.fact 33 rfl)
  n_Towers_towers := He.noat_ok (c.fact 34 rfl)
  n_Towers_layers := He.noat_ok (c.fact 35 rfl)
  n_Towers_pairs := He.noat_ok (c.fact 36 rfl)
  n_Towers_start := He.noat_ok (c.fact 37 rfl)
  n_Towers_standings := He.noat_ok (c.fact 38 rfl)
  d_is_number := dfn_of X G c 0 0 rfl rfl fun _ _ _ _ _ _ us hl => match us, hl with | [_, _, _], _ => rfl
  d_is_money := dfn_of X G c 1 1 rfl rfl fun _ _ _ _ _ _ us hl => match us, hl with | [_], _ => rfl
  d_is_tuple := dfn_of X G c 2 2 rfl rfl fun _ _ _ _ _ _ us hl => match us, hl with | [_, _, _], _ => rfl
  d_clipped := dfn_of X G c 3 3 rfl rfl fun _ _ _ _ _ _ us hl => match us, hl with | [_, _], _ => rfl
  d_same := dfn_of X G c 4 4 rfl rfl fun _ _ _ _ _ _ us hl => match us, hl with | [_, _], _ => rfl
  d_is_kind := dfn_of X G c 5 5 rfl rfl fun _ _ _ _ _ _ us hl => match us, hl with | [_], _ => rfl
  d_check_tower := dfn_of X G c 6 6 rfl rfl fun _ _ _ _ _ _ us hl => match us, hl with | [_], _ => rfl
  d_layer_of := dfn_of X G c 7 7 rfl rfl fun _ _ _ _ _ _ us hl => match us, hl with | [_], _ => rfl
  d_taken := dfn_of X G c 8 8 rfl rfl fun _ _ _ _ _ _ us hl => match us, hl with | [_, _, _, _, _], _ => rfl
  d_Towers___init__ := dfn_ofM c 9 9 rfl rfl fun _ _ _ _ _ _ us hl => match us, hl with | [_, _, _, _, _], _ => rfl
  d_Towers_after := dfn_ofM c 10 10 rfl rfl fun _ _ _ _ _ _ us hl => match us, hl with | [_, _, _, _], _ => rfl
  d_Towers_check_standings := dfn_ofM c 11 11 rfl rfl fun _ _ _ _ _ _ us hl => match us, hl with | [_], _ => rfl
  d_Towers_apart := dfn_ofM c 12 12 rfl rfl fun _ _ _ _ _ _ us hl => match us, hl with | [_], _ => rfl
  d_towers_alike := dfn_of X G c 13 13 rfl rfl fun _ _ _ _ _ _ us hl => match us, hl with | [_, _, _, _], _ => rfl
  d_is_tower_paper := dfn_of X G c 14 14 rfl rfl fun _ _ _ _ _ _ us hl => match us, hl with | [_, _, _, _, _], _ => rfl
  d__law_mixed := dfn_of X G c 15 15 rfl rfl fun _ _ _ _ _ _ us hl => match us, hl with | [_, _], _ => rfl
  d__law_numbers := dfn_of X G c 16 16 rfl rfl fun _ _ _ _ _ _ us hl => match us, hl with | [_], _ => rfl
  d__law_draw := dfn_of X G c 17 17 rfl rfl fun _ _ _ _ _ _ us hl => match us, hl with | [_], _ => rfl
  d__law_equal := dfn_of X G c 18 18 rfl rfl fun _ _ _ _ _ _ us hl => match us, hl with | [_, _], _ => rfl
  d__law_all_equal := dfn_of X G c 19 19 rfl rfl fun _ _ _ _ _ _ us hl => match us, hl with | [_, _], _ => rfl
  d__law_clip := dfn_of X G c 20 20 rfl rfl fun _ _ _ _ _ _ us hl => match us, hl with | [_, _], _ => rfl
  d__law_layer := dfn_of X G c 21 21 rfl rfl fun _ _ _ _ _ _ us hl => match us, hl with | [_], _ => rfl
  d__law_take := dfn_of X G c 22 22 rfl rfl fun _ _ _ _ _ _ us hl => match us, hl with | [_, _, _, _], _ => rfl
  d__law_cut := dfn_of X G c 23 23 rfl rfl fun _ _ _ _ _ _ us hl => match us, hl with | [_, _, _], _ => rfl
  d__law_walk := dfn_of X G c 24 24 rfl rfl fun _ _ _ _ _ _ us hl => match us, hl with | [_, _, _, _], _ => rfl
  d__law_kind := dfn_of X G c 25 25 rfl rfl fun _ _ _ _ _ _ us hl => match us, hl with | [_, _], _ => rfl
  d__law_towers := dfn_of X G c 26 26 rfl rfl fun _ _ _ _ _ _ us hl => match us, hl with | [_, _], _ => rfl
  d__law_amounts := dfn_of X G c 27 27 rfl rfl fun _ _ _ _ _ _ us hl => match us, hl with | [_, _], _ => rfl
  d__law_all_standings := dfn_of X G c 28 28 rfl rfl fun _ _ _ _ _ _ us hl => match us, hl with | [_, _, _, _], _ => rfl
  d__law_spoilt := dfn_of X G c 29 29 rfl rfl fun _ _ _ _ _ _ us hl => match us, hl with | [_, _], _ => rfl
  d_law := dfn_of X G c 30 30 rfl rfl fun _ _ _ _ _ _ us hl => match us, hl with | [_], _ => rfl
end Law
open PySem PySem.W PySem.Calls PyProof.Rows
set_option maxHeartbeats 0 in
theorem PySem.Challenge.cw_whatbefell_k27_papers_of_towers_are_judg_holds : PySem.Challenge.rw_whatbefell_k27_papers_of_towers_are_judg.Holds := by
  w_on; o_law
  refine HandSHeadRun.head_any (r := OpenLaw.row PySem.Challenge.rw_whatbefell_k27_papers_of_towers_are_judg) (q := view (OpenLaw.row PySem.Challenge.rw_whatbefell_k27_papers_of_towers_are_judg).prog [39]) (H := Dn.hookX 3 ["Towers"] Law.fan Law.fnn Law.fbn) (ob := Dn.obX 3 ["Towers"] Law.fan Law.fnn Law.fbn) (M := 6000) (loose := Law.loo) (d := HandSHeadRun.topDef (OpenLaw.row PySem.Challenge.rw_whatbefell_k27_papers_of_towers_are_judg).prog 39) (kwd := []) (Dn.obX_eq 3 ["Towers"] Law.fan Law.fnn Law.fbn)
    (by kernel_rfl) (fun s => by kernel_rfl) Law.run (by kernel_rfl) (by kernel_rfl) (by kernel_rfl) (by rfl) (by first | assumption | decide +kernel) (by decide +kernel) ⟨rfl, rfl, rfl, rfl, rfl, by decide +kernel⟩ ?hw ?hc
  case hw => w_witness2
  case hc =>
    refine Dn.law_endW (m := 2) (l := PySem.Challenge.rw_whatbefell_k27_papers_of_towers_are_judg) (n := 63) (k := 42) (x := "script") (F := fun w K => Law.F_law K w) rfl (by decide) (by kernel_rfl) ⟨rfl, by decide, by decide⟩ ?_ (fun w K ns h => Law.law_true K w ns h)
    intro w mg h K X c cb G
    have T : Law.Tx K mg := Law.tx_of X G c cb
    have e : (HandSHeadRun.topDef (OpenLaw.row PySem.Challenge.rw_whatbefell_k27_papers_of_towers_are_judg).prog 39).name = ("law" : PySem.Str) := by kernel_rfl
    rw [e]
    obtain ⟨fd, F⟩ := c.def_ 30 (d := Dn.dfd "law" Law.st_law) rfl
    have b := L2.FunD.bindsA (ps := ["script"]) F fun _ _ _ _ _ _ us hl => match us, hl with | [_], _ => rfl
    refine ⟨fd, T.d_law.g, fun s v => b s [v] rfl, fun base _ _ => ?_⟩
    exact Law.law_fn T F

