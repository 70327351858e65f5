import PyProof.Rows.All
import Wide.All
import OpenK.AllK
import Wide.FinOn
import HandS.Base
import HandS.Call
import HandS.List
import HandS.Comp
import HandS.Ends
import HandS.Dict
import HandS.Iter
import HandS.Text
import HandS.Words
import HandS.WordsList
import HandS.WordsDict
import HandS.Lambda
import HandS.Defaults
import HandS.Head0
import HandS.Head1
import HandS.Head2
import HandS.HeadEnd
import HandS.HeadHook1
import HandS.HeadHook2
import HandS.SortRule
import HandS.SortInts
import HandS.TupAny
import HandS.SetFor
import HandS.Strs
import HandS.Walk
import PyProof.SeqIndex
import KE.KTupSum
import HandS.Zip
import HandS.More
import KE.DataMinMax
import HandS.Wide
import HandS.SortOrd
import HandS.Style
import KE.KDictPairs
import KE.KItemsList
import KE.KPairComp
import HandS.TupLe
import HandS.IsInst
import KE.GoesMore
import KE.GoesEnum
import HandS.Exc
import HandS.ExcOwn
import HandS.ExcIs
import HandS.WordsExc
import HandS.TryOnly
import HandS.ClsMeth
import PyProof.ExcBaseAll.ValueError
import HandS.Deep
import HandS.HeadHook4
import HandS.HeadWalk
import PySem.Challenge.RW_ringgaps_k02_whole_texts
set_option Elab.async false
set_option linter.all false
set_option maxRecDepth 100000
namespace Py
open PySem PySem.Spec PyProof.Rows L2

/-! ### data in a heap -/
def Sub (H H' : Hp) : Prop := ∀ a o, H a = some o → H' a = some o
theorem Sub.refl (H : Hp) : Sub H H := fun _ _ h => h
theorem Sub.trans {H H1 H2 : Hp} (a : Sub H H1) (b : Sub H1 H2) : Sub H H2 := fun x o h => b x o (a x o h)
theorem rd_sub {H H' : Hp} {a : Addr} {u : HO} (e : Sub H H') (h : Rd H a u) : Rd H' a u := h.elim (fun h => .inl (e _ _ h)) fun ⟨o, h⟩ => .inr ⟨o, e _ _ h⟩
theorem sub_L {K : PySem.W.Frag} {H H' : Hp} {a : Addr} {xs : List V} (e : Sub H H') (h : SqL K H a xs) : SqL K H' a xs := by
  rcases h with (h | ⟨o, h⟩) | h
  · exact .inl (.inl (e _ _ h))
  · exact .inl (.inr ⟨o, e _ _ h⟩)
  · exact .inr h
theorem sub_T {K : PySem.W.Frag} {H H' : Hp} {a : Addr} {xs : List V} (e : Sub H H') (h : SqT K H a xs) : SqT K H' a xs := by
  rcases h with (h | ⟨o, h⟩) | h
  · exact .inl (.inl (e _ _ h))
  · exact .inl (.inr ⟨o, e _ _ h⟩)
  · exact .inr h
mutual
inductive Dq (H : Hp) : V → PyData → Prop
  | non : Dq H .non .none
  | bl (b : Bool) : Dq H (.bl b) (.bool b)
  | int (i : Int) : Dq H (.int i) (.int i)
  | str (x : Str) : Dq H (.str x) (.str x)
  | lst {a : Addr} {xs : List V} {ds : List PyData} : H a = some (.lst xs) → DqAll H xs ds → Dq H (.ref a) (.list ds)
  | tup {a : Addr} {xs : List V} {ds : List PyData} : Rd H a (.tup xs) → DqAll H xs ds → Dq H (.ref a) (.tuple ds)
inductive DqAll (H : Hp) : List V → List PyData → Prop
  | nil : DqAll H [] []
  | cons {v : V} {vs : List V} {d : PyData} {ds : List PyData} : Dq H v d → DqAll H vs ds → DqAll H (v :: vs) (d :: ds)
end
section
variable {K : PySem.W.Frag} {H : Hp}
mutual
theorem dq_dp : ∀ (d : PyData) (v : V), Dq H v d → Dp K H v d
  | .none, _, h => by cases h; exact .non
  | .bool b, _, h => by cases h; exact .bl b
  | .int i, _, h => by cases h; exact .int i
  | .str x, _, h => by cases h; exact .str x
  | .list ds, _, h => by
    cases h with
    | lst hs ha => exact .lst (SqL.of hs) (dqAll_dp ds _ ha)
  | .tuple ds, _, h => by
    cases h with
    | tup hs ha => exact .tup (.inl hs) (dqAll_dp ds _ ha)
  | .dict _, _, h => by cases h
theorem dqAll_dp : ∀ (ds : List PyData) (vs : List V), DqAll H vs ds → DpAll K H vs ds
  | [], _, h => by cases h; exact .nil
  | d :: ds, _, h => by
    cases h with
    | cons h1 h2 => exact .cons (dq_dp d _ h1) (dqAll_dp ds _ h2)
end
end
section
variable {K : PySem.W.Frag} {H H' : Hp}
mutual
theorem dp_sub (e : Sub H H') : ∀ (d : PyData) (v : V), Dq H v d → Dq H' v d
  | .none, _, h => by cases h; exact .non
  | .bool b, _, h => by cases h; exact .bl b
  | .int i, _, h => by cases h; exact .int i
  | .str x, _, h => by cases h; exact .str x
  | .list ds, _, h => by
    cases h with
    | lst hs ha => exact .lst (e _ _ hs) (dpAll_sub e ds _ ha)
  | .tuple ds, _, h => by
    cases h with
    | tup hs ha => exact .tup (rd_sub e hs) (dpAll_sub e ds _ ha)
  | .dict _, _, h => by cases h
theorem dpAll_sub (e : Sub H H') : ∀ (ds : List PyData) (vs : List V), DqAll H vs ds → DqAll H' vs ds
  | [], _, h => by cases h; exact .nil
  | d :: ds, _, h => by
    cases h with
    | cons h1 h2 => exact .cons (dp_sub e d _ h1) (dpAll_sub e ds _ h2)
end
theorem dpa_len : ∀ {vs : List V} {ds : List PyData}, DqAll H vs ds → vs.length = ds.length
  | _, _, .nil => rfl
  | _, _, .cons _ t => by rw [List.length_cons, List.length_cons, dpa_len t]
theorem dpa_at_ : ∀ {vs : List V} {ds : List PyData} {i : Nat} {d : PyData}, DqAll H vs ds → ds[i]? = some d → ∃ v, vs[i]? = some v ∧ Dq H v d
  | _, _, i, d, .nil, e => by simp at e
  | _, _, 0, d, .cons h t, e => by
    simp at e
    subst e
    exact ⟨_, rfl, h⟩
  | _, _, i + 1, d, .cons h t, e => by
    obtain ⟨v, a, b⟩ := dpa_at_ (i := i) t (by simpa using e)
    exact ⟨v, by simpa using a, b⟩
theorem dpa_atV : ∀ {vs : List V} {ds : List PyData} {i : Nat} {v : V}, DqAll H vs ds → vs[i]? = some v → ∃ d, ds[i]? = some d ∧ Dq H v d
  | _, _, i, d, .nil, e => by simp at e
  | _, _, 0, d, .cons h t, e => by
    simp at e
    subst e
    exact ⟨_, rfl, h⟩
  | _, _, i + 1, d, .cons h t, e => by
    obtain ⟨v, a, b⟩ := dpa_atV (i := i) t (by simpa using e)
    exact ⟨v, by simpa using a, b⟩
theorem dpa_app : ∀ {vs us : List V} {ds es : List PyData}, DqAll H vs ds → DqAll H us es → DqAll H (vs ++ us) (ds ++ es)
  | _, _, _, _, .nil, s => s
  | _, _, _, _, .cons h t, s => .cons h (dpa_app t s)
theorem dpa_take : ∀ {vs : List V} {ds : List PyData} (n : Nat), DqAll H vs ds → DqAll H (vs.take n) (ds.take n)
  | _, _, 0, _ => .nil
  | _, _, _ + 1, .nil => .nil
  | _, _, n + 1, .cons h t => .cons h (dpa_take n t)
theorem dpa_drop : ∀ {vs : List V} {ds : List PyData} (n : Nat), DqAll H vs ds → DqAll H (vs.drop n) (ds.drop n)
  | _, _, 0, r => r
  | _, _, _ + 1, .nil => .nil
  | _, _, n + 1, .cons _ t => dpa_drop n t
theorem dpa_rev : ∀ {vs : List V} {ds : List PyData}, DqAll H vs ds → DqAll H vs.reverse ds.reverse
  | _, _, .nil => .nil
  | _, _, .cons h t => by
    rw [List.reverse_cons, List.reverse_cons]
    exact dpa_app (dpa_rev t) (.cons h .nil)
theorem dpa_ints : ∀ {ns : List Int}, DqAll H (ns.map V.int) (ns.map PyData.int)
  | [] => .nil
  | _ :: _ => .cons (.int _) dpa_ints
theorem dpa_ofInts : ∀ {ns : List Int} {vs : List V}, DqAll H vs (ns.map PyData.int) → vs = ns.map V.int
  | [], vs, h => by cases h; rfl
  | n :: ns, vs, h => by
    cases h with
    | cons h1 h2 =>
      cases h1
      rw [dpa_ofInts h2]
      rfl
theorem dpa_append1 {vs : List V} {ds : List PyData} {v : V} {d : PyData} (h : DqAll H vs ds) (q : Dq H v d) : DqAll H (vs ++ [v]) (ds ++ [d]) := dpa_app h (.cons q .nil)
end

/-! ### what a name holds; what is one's own -/
inductive SV where
  | d (x : PyData)
  | v (x : V)
  | s (ns : List Int)
  | t (ds : List PyData)
  | k (kvs : List (Int × PyData))
  | m (x : V) (P : Hp → Prop)
inductive OO where
  | lst (ds : List PyData)
  | dic (kvs : List (Int × PyData))
  | ins (C dx : Addr) (fs : List (Str × V))
  | tab (q : Str)
abbrev Own := List (Addr × OO)
abbrev En := List (Option SV)
def vis (O : Own) (H : Hp) : Hp := fun a => if a ∈ O.map (·.1) then none else H a
theorem vis_some {O : Own} {H : Hp} {a : Addr} {o : HO} (h : vis O H a = some o) : a ∉ O.map (·.1) ∧ H a = some o := by
  unfold vis at h
  split at h
  · cases h
  · exact ⟨by assumption, h⟩
theorem vis_of {O : Own} {H : Hp} {a : Addr} {o : HO} (h1 : a ∉ O.map (·.1)) (h2 : H a = some o) : vis O H a = some o := by
  unfold vis
  rw [if_neg h1]
  exact h2
theorem vis_sub (O : Own) (H : Hp) : Sub (vis O H) H := fun _ _ h => (vis_some h).2
def SVr (K : PySem.W.Frag) (W : Hp) (v : V) : SV → Prop
  | .d x => Dq W v x
  | .v y => v = y
  | .s ns => ∃ a, v = .ref a ∧ SqL K W a (ns.map V.int)
  | .t ds => ∃ (a : Addr) (o : Obj) (vs : List V), v = .ref a ∧ W a = some (.frz o (.tup vs)) ∧ o.dict = none ∧ DqAll W vs ds
  | .k kvs => ∃ (a : Addr) (o : Obj) (vs : List (Key × V)), v = .ref a ∧ W a = some (.frz o (.dK vs)) ∧ Paired (fun (p : Key × V) (q : Int × PyData) => p.1 = Sum.inl q.1 ∧ Dq W p.2 q.2) vs kvs
  | .m x P => v = x ∧ P W ∧ ∀ W1 W2, Sub W1 W2 → P W1 → P W2
theorem SVr.sub {K : PySem.W.Frag} {W W' : Hp} {v : V} (e : Sub W W') : ∀ {r : SV}, SVr K W v r → SVr K W' v r
  | .d _, h => dp_sub e _ _ h
  | .v _, h => h
  | .s _, ⟨a, e1, e2⟩ => ⟨a, e1, sub_L e e2⟩
  | .t _, ⟨a, o, vs, e1, e2, e3, e4⟩ => ⟨a, o, vs, e1, e _ _ e2, e3, dpAll_sub e _ _ e4⟩
  | .k _, ⟨a, o, vs, e1, e2, e3⟩ => ⟨a, o, vs, e1, e _ _ e2, Paired.mapP e3 fun _ _ z => ⟨z.1, dp_sub e _ _ z.2⟩⟩
  | .m _ _, ⟨e1, e2, e3⟩ => ⟨e1, e3 _ _ e e2, e3⟩
def ObjIs (K : PySem.W.Frag) (W H : Hp) (a : Addr) : OO → Prop
  | .lst ds => ∃ vs, H a = some (.lst vs) ∧ DqAll W vs ds
  | .dic kvs => ∃ vs : List (Key × V), H a = some (.dK vs) ∧ Paired (fun (p : Key × V) (q : Int × PyData) => p.1 = Sum.inl q.1 ∧ Dq W p.2 q.2) vs kvs
  | .ins C dx fs => H a = some (.ins C dx fs) ∧ H dx = some (.own a)
  | .tab q => ∃ ps : Array Value, H a = some (.tbl ps) ∧ TriplesOk ps.toList ∧ ∀ (pos : Pos) (cv : Value), codeAmong pos ps.toList = some cv → ∃ c, cv = .ref c ∧ W c = some (LamX.CodeO c q)
structure OwnOk (K : PySem.W.Frag) (O : Own) (H : Hp) : Prop where
  nd : (O.map (·.1)).Nodup
  is : ∀ p ∈ O, ObjIs K (vis O H) H p.1 p.2
theorem ObjIs.sub {K : PySem.W.Frag} {W W' H H' : Hp} {a : Addr} (e : Sub W W') (h : H' a = H a) : ∀ {o : OO}, (∀ dx, H dx = some (.own a) → H' dx = some (.own a)) → ObjIs K W H a o → ObjIs K W' H' a o
  | .lst _, _, ⟨vs, q, r⟩ => ⟨vs, h.trans q, dpAll_sub e _ _ r⟩
  | .dic _, _, ⟨vs, q, r⟩ => ⟨vs, h.trans q, Paired.mapP r fun _ _ z => ⟨z.1, dp_sub e _ _ z.2⟩⟩
  | .ins _ _ _, k, ⟨q, r⟩ => ⟨h.trans q, k _ r⟩
  | .tab _, _, ⟨ps, q1, q2, q3⟩ => ⟨ps, h.trans q1, q2, fun pos cv hc => let ⟨c, e1, e2⟩ := q3 pos cv hc; ⟨c, e1, e _ _ e2⟩⟩
theorem ObjIs.some {K : PySem.W.Frag} {W H : Hp} {a : Addr} : ∀ {o : OO}, ObjIs K W H a o → ∃ u, H a = some u
  | .lst _, ⟨_, q, _⟩ => ⟨_, q⟩
  | .dic _, ⟨_, q, _⟩ => ⟨_, q⟩
  | .ins _ _ _, ⟨q, _⟩ => ⟨_, q⟩
  | .tab _, ⟨_, q, _⟩ => ⟨_, q⟩
/-- from (O, H) to (O', H'): all else is kept -/
structure Stp (K : PySem.W.Frag) (O : Own) (H : Hp) (O' : Own) (H' : Hp) : Prop where
  keep : ∀ a o, a ∉ O.map (·.1) → H a = some o → H' a = some o
  new : ∀ a, a ∈ O'.map (·.1) → a ∈ O.map (·.1) ∨ H a = none
  dom : ∀ a, H' a = none → H a = none
  ok : OwnOk K O' H'
section
variable {K : PySem.W.Frag} {O O1 O2 : Own} {H H1 H2 : Hp}
theorem Stp.refl (h : OwnOk K O H) : Stp K O H O H := ⟨fun _ _ _ h => h, fun _ h => .inl h, fun _ h => h, h⟩
theorem Stp.trans (a : Stp K O H O1 H1) (b : Stp K O1 H1 O2 H2) : Stp K O H O2 H2 where
  keep := fun x o n h => b.keep x o (fun z => (a.new x z).elim n fun e => by rw [h] at e; cases e) (a.keep x o n h)
  new := fun x h => (b.new x h).elim (a.new x) fun e => .inr (a.dom x e)
  dom := fun x h => a.dom x (b.dom x h)
  ok := b.ok
theorem Stp.vis (a : Stp K O H O1 H1) : Sub (vis O H) (vis O1 H1) := fun x o h => by
  obtain ⟨n, e⟩ := vis_some h
  exact vis_of (fun z => (a.new x z).elim n fun q => by rw [e] at q; cases q) (a.keep x o n e)
theorem Stp.sv (a : Stp K O H O1 H1) {v : V} {r : SV} (h : SVr K (Py.vis O H) v r) : SVr K (Py.vis O1 H1) v r := h.sub a.vis
/-- a new object that nobody owns -/
theorem Stp.laid {p : Addr} {o : HO} (h : OwnOk K O H) (hp : H p = none) : Stp K O H O (upd H p o) := by
  have np : p ∉ O.map (·.1) := fun z => by
    obtain ⟨q, hq, rfl⟩ := List.mem_map.mp z
    obtain ⟨u, e⟩ := (h.is q hq).some
    rw [hp] at e
    cases e
  have k : ∀ a o', H a = some o' → upd H p o a = some o' := fun a o' e => by rw [upd_ne (ne_of_none e hp)]; exact e
  refine ⟨fun a o' _ e => k a o' e, fun _ z => .inl z, fun a e => ?_, h.nd, fun q hq => ?_⟩
  · by_cases ha : a = p
    · subst ha
      exact hp
    · rw [upd_ne ha] at e
      exact e
  · refine (h.is q hq).sub (fun a o' z => ?_) ?_ (fun dx z => k _ _ z)
    · obtain ⟨z1, z2⟩ := vis_some z
      exact vis_of z1 (k _ _ z2)
    · obtain ⟨u, e⟩ := (h.is q hq).some
      rw [upd_ne (ne_of_none e hp)]
theorem OwnOk.fresh {p : Addr} (h : OwnOk K O H) (hp : H p = none) : p ∉ O.map (·.1) := fun z => by
  obtain ⟨q, hq, rfl⟩ := List.mem_map.mp z
  obtain ⟨u, e⟩ := (h.is q hq).some
  rw [hp] at e
  cases e
theorem vis_laid {p : Addr} {o : HO} (h : OwnOk K O H) (hp : H p = none) : vis O (upd H p o) p = some o := vis_of (h.fresh hp) upd_same
end

/-! ### states -/
structure Rep (K : PySem.W.Frag) (E : En) (O : Own) (σ : L2.St) (H : Hp) : Prop where
  len : σ.length = E.length
  own : OwnOk K O H
  sl : ∀ (i : Nat) (r : SV), E[i]? = some (some r) → ∃ v, σ[i]? = some (some v) ∧ SVr K (vis O H) v r
section
variable {K : PySem.W.Frag} {E : En} {O O1 : Own} {σ : L2.St} {H H1 : Hp}
theorem Rep.step (h : Rep K E O σ H) (a : Stp K O H O1 H1) : Rep K E O1 σ H1 := ⟨h.len, a.ok, fun i r e => by
  obtain ⟨v, q, z⟩ := h.sl i r e
  exact ⟨v, q, a.sv z⟩⟩
theorem Rep.set (h : Rep K E O σ H) (i : Nat) {v : V} {r : SV} (q : SVr K (vis O H) v r) : Rep K (E.set i (some r)) O (σ.set i (some v)) H := ⟨by rw [List.length_set, List.length_set]; exact h.len, h.own, fun j r' e => by
  by_cases hj : i = j
  · subst hj
    by_cases hl : i < E.length
    · rw [List.getElem?_set_self hl] at e
      cases e
      refine ⟨v, ?_, q⟩
      rw [List.getElem?_set_self (by rw [h.len]; exact hl)]
    · rw [List.getElem?_eq_none (by rw [List.length_set]; omega)] at e
      cases e
  · rw [List.getElem?_set_ne hj] at e
    rw [List.getElem?_set_ne hj]
    exact h.sl j r' e⟩
/-- some names forgotten -/
theorem Rep.weak {E' : En} (h : Rep K E O σ H) (hl : E'.length = E.length) (hs : ∀ (i : Nat) (r : SV), E'[i]? = some (some r) → E[i]? = some (some r)) : Rep K E' O σ H := ⟨h.len.trans hl.symm, h.own, fun i r e => h.sl i r (hs i r e)⟩
end

/-! ### the judgements by the machine itself -/
section
variable (X : Cx)
def WE (e : Expr) : TE := fun σ H Q => ∀ pins s, Inv X pins σ H s → wpAny (model X.prog X.w) X.A (eval e X.env) (EP X pins σ Q) X.xe s
def WT (e : Expr) : TT := fun σ H Q => ∀ pins s, Inv X pins σ H s → wpAny (model X.prog X.w) X.A (isTrue e X.env (eval e X.env)) (TP X pins σ Q) X.xe s
def WA (es : List Expr) : TA := fun σ H Q => ∀ (pos : Pos) pins s, Inv X pins σ H s → wpAny (model X.prog X.w) X.A (spliced (backTo pos (starEach es X.env))) (AP X pins σ Q) X.xe s
def WS (st : Stmt) : TS := fun D σ H => ∀ pins s, Inv X pins σ H s → wpAny (model X.prog X.w) X.A (exec st X.env) (SP X pins D) X.xe s
def WSs (st : List Stmt) : TS := fun D σ H => ∀ pins s, Inv X pins σ H s → wpAny (model X.prog X.w) X.A (execs st X.env) (SP X pins D) X.xe s
end
section
variable {X : Cx} {e : Expr} {es : List Expr} {st : Stmt} {sts : List Stmt} {σ : L2.St} {H : Hp}
theorem WE.pe : PE X e (WE X e) := ⟨fun pins s _ _ _ I h => h pins s I⟩
theorem WT.pt : PT X e (WT X e) := ⟨fun pins s _ _ _ I h => h pins s I⟩
theorem WA.pa : PA X es (WA X es) := ⟨fun pos pins s _ _ _ I h => h pos pins s I⟩
theorem WS.ps : PS X st (WS X st) := ⟨fun pins s _ _ _ I h => h pins s I⟩
theorem WSs.pss : PSs X sts (WSs X sts) := ⟨fun pins s _ _ _ I h => h pins s I⟩
theorem we_of {t : TE} {Q : VK} (p : PE X e t) (h : t σ H Q) : WE X e σ H Q := fun pins s I => p.run pins s σ H Q I h
theorem wt_of {t : TT} {Q : Bool → Hp → Prop} (p : PT X e t) (h : t σ H Q) : WT X e σ H Q := fun pins s I => p.run pins s σ H Q I h
theorem wa_of {t : TA} {Q : List V → Hp → Prop} (p : PA X es t) (h : t σ H Q) : WA X es σ H Q := fun pos pins s I => p.run pos pins s σ H Q I h
theorem ws_of {t : TS} {D : Ends} (p : PS X st t) (h : t D σ H) : WS X st D σ H := fun pins s I => p.run pins s σ H D I h
theorem wss_of {t : TS} {D : Ends} (p : PSs X sts t) (h : t D σ H) : WSs X sts D σ H := fun pins s I => p.run pins s σ H D I h
end
end Py
namespace Py
open PySem PySem.Spec PyProof.Rows L2

abbrev vI (n : Int) : SV := .d (.int n)
abbrev vB (b : Bool) : SV := .d (.bool b)
abbrev vS (x : Str) : SV := .d (.str x)
abbrev vT (ds : List PyData) : SV := .d (.tuple ds)
abbrev vL (ds : List PyData) : SV := .d (.list ds)
abbrev vN : SV := .d .none

/-! ### judgements -/
abbrev Kont (K : PySem.W.Frag) (O : Own) (H : Hp) (Φ : SV → Own → Prop) (Q : VK) : Prop := ∀ v H' r O', Φ r O' → Stp K O H O' H' → SVr K (vis O' H') v r → Q v H'
abbrev is1 (r : SV) (O : Own) : SV → Own → Prop := fun r' O' => r' = r ∧ O' = O
def EG (X : Cx) (e : Expr) (E : En) (O : Own) (Φ : SV → Own → Prop) : Prop := ∀ σ H, Rep X.K E O σ H → ∀ Q : VK, Kont X.K O H Φ Q → WE X e σ H Q
abbrev EX (X : Cx) (e : Expr) (E : En) (O : Own) (r : SV) : Prop := EG X e E O (is1 r O)
def TQ (X : Cx) (e : Expr) (E : En) (O : Own) (Φ : Bool → Own → Prop) : Prop := ∀ σ H, Rep X.K E O σ H → ∀ Q : Bool → Hp → Prop, (∀ b H' O', Φ b O' → Stp X.K O H O' H' → Q b H') → WT X e σ H Q
abbrev isB (b : Bool) (O : Own) : Bool → Own → Prop := fun b' O' => b' = b ∧ O' = O
abbrev ET (X : Cx) (e : Expr) (E : En) (O : Own) (b : Bool) : Prop := TQ X e E O (isB b O)
def WW (X : Cx) (e : Expr) : TT := fun σ H Q => ∀ (whole : Sem Value) pins s, Inv X pins σ H s → wpAny (model X.prog X.w) X.A (isTrue e X.env whole) (TP X pins σ Q) X.xe s
theorem WW.pw {X : Cx} {e : Expr} : PW X e (WW X e) := ⟨fun whole pins s _ _ _ I h => h whole pins s I⟩
theorem ww_of {X : Cx} {e : Expr} {σ : L2.St} {H : Hp} {t : TT} {Q : Bool → Hp → Prop} (p : PW X e t) (h : t σ H Q) : WW X e σ H Q := fun whole pins s I => p.run whole pins s σ H Q I h
def WQ (X : Cx) (e : Expr) (E : En) (O : Own) (Φ : Bool → Own → Prop) : Prop := ∀ σ H, Rep X.K E O σ H → ∀ Q : Bool → Hp → Prop, (∀ b H' O', Φ b O' → Stp X.K O H O' H' → Q b H') → WW X e σ H Q
abbrev EW (X : Cx) (e : Expr) (E : En) (O : Own) (b : Bool) : Prop := WQ X e E O (isB b O)
inductive SVs (K : PySem.W.Frag) (W : Hp) : List V → List SV → Prop
  | nil : SVs K W [] []
  | cons {v : V} {vs : List V} {r : SV} {rs : List SV} : SVr K W v r → SVs K W vs rs → SVs K W (v :: vs) (r :: rs)
theorem SVs.sub {K : PySem.W.Frag} {W W' : Hp} (e : Sub W W') : ∀ {vs : List V} {rs : List SV}, SVs K W vs rs → SVs K W' vs rs
  | _, _, .nil => .nil
  | _, _, .cons h t => .cons (h.sub e) (t.sub e)
theorem SVs.len {K : PySem.W.Frag} {W : Hp} : ∀ {vs : List V} {rs : List SV}, SVs K W vs rs → vs.length = rs.length
  | _, _, .nil => rfl
  | _, _, .cons _ t => by rw [List.length_cons, List.length_cons, t.len]
theorem SVs.data {K : PySem.W.Frag} {W : Hp} : ∀ {vs : List V} {ds : List PyData}, SVs K W vs (ds.map SV.d) → DqAll W vs ds
  | _, [], .nil => .nil
  | _, _ :: _, .cons h t => .cons h t.data
theorem SVs.of {K : PySem.W.Frag} {W : Hp} : ∀ {vs : List V} {ds : List PyData}, DqAll W vs ds → SVs K W vs (ds.map SV.d)
  | _, [], .nil => .nil
  | _, _ :: _, .cons h t => .cons h (SVs.of t)
def AQ (X : Cx) (es : List Expr) (E : En) (O : Own) (Φ : List SV → Own → Prop) : Prop := ∀ σ H, Rep X.K E O σ H → ∀ Q : List V → Hp → Prop, (∀ vs H' rs O', Φ rs O' → Stp X.K O H O' H' → SVs X.K (vis O' H') vs rs → Q vs H') → WA X es σ H Q
abbrev isA (rs : List SV) (O : Own) : List SV → Own → Prop := fun rs' O' => rs' = rs ∧ O' = O
abbrev EA (X : Cx) (es : List Expr) (E : En) (O : Own) (rs : List SV) : Prop := AQ X es E O (isA rs O)

section
variable {X : Cx} {a b c e : Expr} {es : List Expr} {E : En} {O : Own} {pos : Pos}

theorem EG.mono {Φ Ψ : SV → Own → Prop} (h : EG X e E O Φ) (k : ∀ r O', Φ r O' → Ψ r O') : EG X e E O Ψ := fun σ H R Q q => h σ H R Q fun v H' r O' f st z => q v H' r O' (k r O' f) st z
theorem EX.cast {r r' : SV} (h : EX X e E O r) (k : r = r') : EX X e E O r' := by
  subst k
  exact h
theorem ET.cast {b b' : Bool} (h : ET X e E O b) (k : b = b') : ET X e E O b' := by
  subst k
  exact h

/-! names, constants -/
theorem x_var (i : Nat) {x : Str} {r : SV} (h : E[i]? = some (some r) := by rfl) (hN : X.N[i]? = some x := by rfl) (hv : Vis X.env.scope x := by first | exact Or.inl rfl | exact Or.inr (Or.inl rfl) | exact Or.inr (Or.inr rfl)) (hd : (x == ("__debug__" : Str)) = false := by decide)
    (hcd : (x == ("__classdict__" : Str)) = false := by decide) : EX X (.Name x pos) E O r := fun σ H R Q q => we_of (pe_var hN hv hd hcd) (by
  obtain ⟨v, e, z⟩ := R.sl i r h
  exact ⟨v, e, q v H r O ⟨rfl, rfl⟩ (.refl R.own) z⟩)
theorem x_int {n : Int} {j : Nat} : EX X (.Constant (.int n) j pos) E O (vI n) := fun σ H R Q q => we_of pe_int (q _ H _ O ⟨rfl, rfl⟩ (.refl R.own) (.int n))
theorem x_bl {n : Bool} {j : Nat} : EX X (.Constant (.bool n) j pos) E O (vB n) := fun σ H R Q q => we_of pe_bl (q _ H _ O ⟨rfl, rfl⟩ (.refl R.own) (.bl n))
theorem x_str {n : Str} {j : Nat} : EX X (.Constant (.str n) j pos) E O (vS n) := fun σ H R Q q => we_of pe_str (q _ H _ O ⟨rfl, rfl⟩ (.refl R.own) (.str n))
theorem x_non {j : Nat} : EX X (.Constant .none j pos) E O vN := fun σ H R Q q => we_of pe_non (q _ H _ O ⟨rfl, rfl⟩ (.refl R.own) .non)
theorem x_glob {x : Str} {v : V} {u : Value} {r : SV} (hg : Gl X x) (hm : X.mg x = some u) (rv : RelV v u) (hr : ∀ W, SVr X.K W v r) (hd : (x == ("__debug__" : Str)) = false := by decide) : EX X (.Name x pos) E O r :=
  fun σ H R Q q => we_of (pe_glob hg hm rv hd) (q _ H _ O ⟨rfl, rfl⟩ (.refl R.own) (hr _))

/-! operations -/
theorem g_op {rr : R2} {Φ Ψ : SV → Own → Prop} (p : PE X e (tOp rr (WE X a) (WE X b))) (ha : EG X a E O Φ)
    (hb : ∀ r1 O1, Φ r1 O1 → EG X b E O1 fun r2 O2 => ∀ x y H2, OwnOk X.K O2 H2 → SVr X.K (vis O2 H2) x r1 → SVr X.K (vis O2 H2) y r2 → ∀ Q, Kont X.K O2 H2 Ψ Q → rr x y H2 Q) : EG X e E O Ψ := fun σ H R Q q => we_of p (by
  refine ha σ H R _ fun x H1 r1 O1 f1 s1 z1 => ?_
  refine hb r1 O1 f1 σ H1 (R.step s1) _ fun y H2 r2 O2 f2 s2 z2 => ?_
  exact f2 x y H2 s2.ok (s2.sv z1) z2 Q fun v H' r O' f s z => q v H' r O' f ((s1.trans s2).trans s) z)
theorem x_op {rr : R2} {r1 r2 r : SV} (p : PE X e (tOp rr (WE X a) (WE X b))) (ha : EX X a E O r1) (hb : EX X b E O r2)
    (h : ∀ x y H, OwnOk X.K O H → SVr X.K (vis O H) x r1 → SVr X.K (vis O H) y r2 → ∀ Q, Kont X.K O H (is1 r O) Q → rr x y H Q) : EX X e E O r :=
  g_op p ha fun _ _ ⟨e1, e2⟩ => by
    subst e1; subst e2
    exact hb.mono fun _ _ ⟨e1, e2⟩ => by
      subst e1; subst e2
      exact h
theorem g_un {rr : V → Hp → VK → Prop} {Φ Ψ : SV → Own → Prop} (p : PE X e (tUn rr (WE X a))) (ha : EG X a E O Φ)
    (h : ∀ r1 O1, Φ r1 O1 → ∀ x H1, OwnOk X.K O1 H1 → SVr X.K (vis O1 H1) x r1 → ∀ Q, Kont X.K O1 H1 Ψ Q → rr x H1 Q) : EG X e E O Ψ := fun σ H R Q q => we_of p (by
  refine ha σ H R _ fun x H1 r1 O1 f1 s1 z1 => ?_
  exact h r1 O1 f1 x H1 s1.ok z1 Q fun v H' r O' f s z => q v H' r O' f (s1.trans s) z)
theorem int_of {K : PySem.W.Frag} {W : Hp} {v : V} {i : Int} (h : SVr K W v (vI i)) : v = .int i := by cases h; rfl
theorem bl_of {K : PySem.W.Frag} {W : Hp} {v : V} {i : Bool} (h : SVr K W v (vB i)) : v = .bl i := by cases h; rfl
theorem str_of {K : PySem.W.Frag} {W : Hp} {v : V} {i : Str} (h : SVr K W v (vS i)) : v = .str i := by cases h; rfl
theorem non_of {K : PySem.W.Frag} {W : Hp} {v : V} (h : SVr K W v vN) : v = .non := by cases h; rfl
theorem lst_of {K : PySem.W.Frag} {W : Hp} {v : V} {ds : List PyData} (h : SVr K W v (vL ds)) : ∃ a vs, v = .ref a ∧ W a = some (.lst vs) ∧ DqAll W vs ds := by
  cases h with
  | lst h1 h2 => exact ⟨_, _, rfl, h1, h2⟩
theorem tup_of {K : PySem.W.Frag} {W : Hp} {v : V} {ds : List PyData} (h : SVr K W v (vT ds)) : ∃ a vs, v = .ref a ∧ Rd W a (.tup vs) ∧ DqAll W vs ds := by
  cases h with
  | tup h1 h2 => exact ⟨_, _, rfl, h1, h2⟩
theorem x_I0 {rr : R2} {g : Int → Int → V} {k : Int → Int → PyData} {i j : Int} (hr : rr = rI0 g) (p : PE X e (tOp rr (WE X a) (WE X b))) (hk : ∀ W, Dq W (g i j) (k i j)) (ha : EX X a E O (vI i)) (hb : EX X b E O (vI j)) : EX X e E O (.d (k i j)) := by
  subst hr
  refine x_op p ha hb fun x y H ok hx hy Q q => ?_
  exact ⟨i, j, int_of hx, int_of hy, q _ H _ O ⟨rfl, rfl⟩ (.refl ok) (hk _)⟩
theorem x_I {rr : R2} {C : Int → Int → Prop} {g : Int → Int → V} {k : Int → Int → PyData} {i j : Int} (hr : rr = rI C g) (p : PE X e (tOp rr (WE X a) (WE X b))) (hk : ∀ W, Dq W (g i j) (k i j)) (ha : EX X a E O (vI i)) (hb : EX X b E O (vI j)) (hc : C i j) : EX X e E O (.d (k i j)) := by
  subst hr
  refine x_op p ha hb fun x y H ok hx hy Q q => ?_
  exact ⟨i, j, int_of hx, int_of hy, hc, q _ H _ O ⟨rfl, rfl⟩ (.refl ok) (hk _)⟩
variable {i j : Int}
theorem x_add (ha : EX X a E O (vI i)) (hb : EX X b E O (vI j)) : EX X (.BinOp a .Add b pos) E O (vI (i + j)) := x_I0 (k := fun i j => .int (i + j)) rfl (pe_op op_add WE.pe WE.pe) (fun _ => .int _) ha hb
theorem x_sub (ha : EX X a E O (vI i)) (hb : EX X b E O (vI j)) : EX X (.BinOp a .Sub b pos) E O (vI (i - j)) := x_I0 (k := fun i j => .int (i - j)) rfl (pe_op op_sub WE.pe WE.pe) (fun _ => .int _) ha hb
theorem x_mul (ha : EX X a E O (vI i)) (hb : EX X b E O (vI j)) (h : CMul i j) : EX X (.BinOp a .Mult b pos) E O (vI (i * j)) := x_I (k := fun i j => .int (i * j)) rfl (pe_op op_mul WE.pe WE.pe) (fun _ => .int _) ha hb h
theorem x_fdiv (ha : EX X a E O (vI i)) (hb : EX X b E O (vI j)) (h : 0 < j ∧ j < 1073741824) : EX X (.BinOp a .FloorDiv b pos) E O (vI (i / j)) := x_I (k := fun i j => .int (i / j)) rfl (pe_op op_fdiv WE.pe WE.pe) (fun _ => .int _) ha hb h
theorem x_mod (ha : EX X a E O (vI i)) (hb : EX X b E O (vI j)) (h : 0 < j) : EX X (.BinOp a .Mod b pos) E O (vI (i % j)) := x_I (k := fun i j => .int (i % j)) rfl (pe_op op_mod WE.pe WE.pe) (fun _ => .int _) ha hb h
theorem x_pow (ha : EX X a E O (vI i)) (hb : EX X b E O (vI j)) (h : 0 ≤ j ∧ j ≤ 1000000 ∧ i.natAbs < 2 ^ 64) : EX X (.BinOp a .Pow b pos) E O (vI (i ^ j.toNat)) := x_I (k := fun i j => .int (i ^ j.toNat)) rfl (pe_op op_pow WE.pe WE.pe) (fun _ => .int _) ha hb h
theorem x_neg (ha : EX X a E O (vI i)) : EX X (.UnaryOp .USub a pos) E O (vI (-i)) := by
  refine g_un (pe_un un_neg WE.pe) ha fun r1 O1 ⟨e1, e2⟩ x H1 ok z Q q => ?_
  subst e1; subst e2
  exact ⟨i, int_of z, q _ H1 _ _ ⟨rfl, rfl⟩ (.refl ok) (.int _)⟩

/-! comparisons -/
def WC (X : Cx) (op : CmpOp) (a b : Expr) : TE := fun σ H Q => ∀ pins s, Inv X pins σ H s →
  wpAny (model X.prog X.w) X.A (eval a X.env) (fun v s₁ => wpAny (model X.prog X.w) X.A (eval b X.env) (fun u s₂ => wpAny (model X.prog X.w) X.A (compareOp op v u) (EP X pins σ Q) X.xe s₂) X.xe s₁) X.xe s
theorem WC.pc {op : CmpOp} : PC X op a b (WC X op a b) := ⟨fun pins s _ _ _ I h => h pins s I⟩
theorem wc_of {op : CmpOp} {t : TE} {σ : L2.St} {H : Hp} {Q : VK} (p : PC X op a b t) (h : t σ H Q) : WC X op a b σ H Q := fun pins s I => p.run pins s σ H Q I h
theorem pc_op {op : CmpOp} {rr : R2} {ta tb : TE} (ho : OpR X (compareOp op) rr) (ha : PE X a ta) (hb : PE X b tb) : PC X op a b (tOp rr ta tb) := ⟨fun pins s σ H Q I h =>
  thn (ha.run pins s σ H _ I h) fun v s1 ⟨x, H1, I1, r1, q1⟩ => thn (hb.run pins s1 σ H1 _ I1 q1) fun u s2 ⟨y, H2, I2, r2, q2⟩ => ho pins s2 σ H2 x y v u _ I2 r1 r2 q2⟩
def CG (X : Cx) (op : CmpOp) (a b : Expr) (E : En) (O : Own) (Φ : SV → Own → Prop) : Prop := ∀ σ H, Rep X.K E O σ H → ∀ Q : VK, Kont X.K O H Φ Q → WC X op a b σ H Q
abbrev CX1 (X : Cx) (op : CmpOp) (a b : Expr) (E : En) (O : Own) (k : Bool) : Prop := CG X op a b E O (is1 (vB k) O)
/-- a comparison as a value, as a test -/
theorem xc {op : CmpOp} {k : Bool} (h : CX1 X op a b E O k) (h1 : behindInMarks op b = false := by first | exact nobehind _ (by decide) (by decide) | rfl) : EX X (.Compare a [op] [b] pos) E O (vB k) := fun σ H R Q q => we_of (pe_cmp WC.pc h1) (h σ H R Q q)
theorem tc {op : CmpOp} {k : Bool} (h : CX1 X op a b E O k) (h1 : behindInMarks op b = false := by first | exact nobehind _ (by decide) (by decide) | rfl) : ET X (.Compare a [op] [b] pos) E O k := fun σ H R Q q => wt_of (pt_cmp WC.pc h1) (by
  refine h σ H R _ fun v H' r O' ⟨e1, e2⟩ s z => ?_
  subst e1; subst e2
  exact ⟨k, bl_of z, q k H' _ ⟨rfl, rfl⟩ s⟩)
theorem CX1.cast {op : CmpOp} {k k' : Bool} (h : CX1 X op a b E O k) (e : k = k') : CX1 X op a b E O k' := by
  subst e
  exact h
theorem gc_op {op : CmpOp} {rr : R2} {Φ Ψ : SV → Own → Prop} (ho : OpR X (compareOp op) rr) (ha : EG X a E O Φ)
    (hb : ∀ r1 O1, Φ r1 O1 → EG X b E O1 fun r2 O2 => ∀ x y H2, OwnOk X.K O2 H2 → SVr X.K (vis O2 H2) x r1 → SVr X.K (vis O2 H2) y r2 → ∀ Q, Kont X.K O2 H2 Ψ Q → rr x y H2 Q) : CG X op a b E O Ψ := fun σ H R Q q => wc_of (pc_op ho WE.pe WE.pe) (by
  refine ha σ H R _ fun x H1 r1 O1 f1 s1 z1 => ?_
  refine hb r1 O1 f1 σ H1 (R.step s1) _ fun y H2 r2 O2 f2 s2 z2 => ?_
  exact f2 x y H2 s2.ok (s2.sv z1) z2 Q fun v H' r O' f s z => q v H' r O' f ((s1.trans s2).trans s) z)
theorem c_op {op : CmpOp} {rr : R2} {r1 r2 : SV} {k : Bool} (ho : OpR X (compareOp op) rr) (ha : EX X a E O r1) (hb : EX X b E O r2)
    (h : ∀ x y H, OwnOk X.K O H → SVr X.K (vis O H) x r1 → SVr X.K (vis O H) y r2 → ∀ Q, Kont X.K O H (is1 (vB k) O) Q → rr x y H Q) : CX1 X op a b E O k :=
  gc_op ho ha fun _ _ ⟨e1, e2⟩ => by
    subst e1; subst e2
    exact hb.mono fun _ _ ⟨e1, e2⟩ => by
      subst e1; subst e2
      exact h
theorem c_I {op : CmpOp} {f : Int → Int → Bool} (ho : OpR X (compareOp op) (rI0 fun i j => .bl (f i j))) (ha : EX X a E O (vI i)) (hb : EX X b E O (vI j)) : CX1 X op a b E O (f i j) :=
  c_op ho ha hb fun x y H ok hx hy Q q => ⟨i, j, int_of hx, int_of hy, q _ H _ O ⟨rfl, rfl⟩ (.refl ok) (.bl _)⟩
theorem c_lt (ha : EX X a E O (vI i)) (hb : EX X b E O (vI j)) : CX1 X .Lt a b E O (decide (i < j)) := c_I op_lt ha hb
theorem c_le (ha : EX X a E O (vI i)) (hb : EX X b E O (vI j)) : CX1 X .LtE a b E O (decide (i ≤ j)) := c_I op_le ha hb
theorem c_gt (ha : EX X a E O (vI i)) (hb : EX X b E O (vI j)) : CX1 X .Gt a b E O (decide (j < i)) := c_I op_gt ha hb
theorem c_ge (ha : EX X a E O (vI i)) (hb : EX X b E O (vI j)) : CX1 X .GtE a b E O (decide (j ≤ i)) := c_I op_ge ha hb
theorem c_eqD {d d' : PyData} (ha : EX X a E O (.d d)) (hb : EX X b E O (.d d')) (h1 : SeqAt.shaped d = true) (h2 : SeqAt.shaped d' = true) (hu : X.A.units + 64 < cLine := by assumption) : CX1 X .Eq a b E O (PyData.eqv d d') :=
  c_op (op_eqD hu) ha hb fun x y H ok hx hy Q q => ⟨d, d', dq_dp _ _ (dp_sub (vis_sub _ _) _ _ hx), dq_dp _ _ (dp_sub (vis_sub _ _) _ _ hy), h1, h2, q _ H _ O ⟨rfl, rfl⟩ (.refl ok) (.bl _)⟩
theorem c_neD {d d' : PyData} (ha : EX X a E O (.d d)) (hb : EX X b E O (.d d')) (h1 : SeqAt.shaped d = true) (h2 : SeqAt.shaped d' = true) (hu : X.A.units + 64 < cLine := by assumption) : CX1 X .NotEq a b E O (!PyData.eqv d d') :=
  c_op (op_neD hu) ha hb fun x y H ok hx hy Q q => ⟨d, d', dq_dp _ _ (dp_sub (vis_sub _ _) _ _ hx), dq_dp _ _ (dp_sub (vis_sub _ _) _ _ hy), h1, h2, q _ H _ O ⟨rfl, rfl⟩ (.refl ok) (.bl _)⟩
theorem c_eq (ha : EX X a E O (vI i)) (hb : EX X b E O (vI j)) (hu : X.A.units + 64 < cLine := by assumption) : CX1 X .Eq a b E O (i == j) := c_eqD ha hb rfl rfl hu
theorem c_ne (ha : EX X a E O (vI i)) (hb : EX X b E O (vI j)) (hu : X.A.units + 64 < cLine := by assumption) : CX1 X .NotEq a b E O (!(i == j)) := c_neD ha hb rfl rfl hu

/-! tests -/
theorem t_val {b : Bool} (h : EX X e E O (vB b)) (he : ∀ whole, isTrue e X.env whole = (do let v ← whole; standAt e.pos; holding [v] (truthy v)) := by intro _; rfl) : ET X e E O b := fun σ H R Q q => wt_of (pt_val WE.pe he) (by
  refine h σ H R _ fun v H' r O' ⟨e1, e2⟩ s z => ?_
  subst e1; subst e2
  exact ⟨b, bl_of z, q b H' _ ⟨rfl, rfl⟩ s⟩)
theorem t_w {b : Bool} (h : EW X e E O b) : ET X e E O b := fun σ H R Q q => wt_of WW.pw.pt (h σ H R Q q)
theorem w_and1 {b : Bool} (h : ET X a E O b) : EW X (.BoolOp .And [a] pos) E O b := fun σ H R Q q => ww_of (pw_and1 WT.pt) (h σ H R Q q)
theorem w_or1 {b : Bool} (h : ET X a E O b) : EW X (.BoolOp .Or [a] pos) E O b := fun σ H R Q q => ww_of (pw_or1 WT.pt) (h σ H R Q q)
theorem w_and {k k' : Bool} (h : ET X a E O k) (h' : k = true → EW X (.BoolOp .And (b :: es) pos) E O k') : EW X (.BoolOp .And (a :: b :: es) pos) E O (k && k') := fun σ H R Q q => ww_of (pw_and WT.pt WW.pw) (by
  refine h σ H R _ fun k1 H1 O1 ⟨e1, e2⟩ s1 => ?_
  subst e1; subst e2
  cases k1 with
  | true =>
    rw [if_pos rfl]
    exact h' rfl σ H1 (R.step s1) Q fun k2 H2 O2 ⟨e1, e2⟩ s2 => by
      subst e1; subst e2
      exact q _ H2 _ ⟨by simp, rfl⟩ (s1.trans s2)
  | false =>
    rw [if_neg Bool.false_ne_true]
    exact q _ H1 _ ⟨by simp, rfl⟩ s1)
theorem w_or {k k' : Bool} (h : ET X a E O k) (h' : k = false → EW X (.BoolOp .Or (b :: es) pos) E O k') : EW X (.BoolOp .Or (a :: b :: es) pos) E O (k || k') := fun σ H R Q q => ww_of (pw_or WT.pt WW.pw) (by
  refine h σ H R _ fun k1 H1 O1 ⟨e1, e2⟩ s1 => ?_
  subst e1; subst e2
  cases k1 with
  | true =>
    rw [if_pos rfl]
    exact q _ H1 _ ⟨by simp, rfl⟩ s1
  | false =>
    rw [if_neg Bool.false_ne_true]
    exact h' rfl σ H1 (R.step s1) Q fun k2 H2 O2 ⟨e1, e2⟩ s2 => by
      subst e1; subst e2
      exact q _ H2 _ ⟨by simp, rfl⟩ (s1.trans s2))
theorem t_not {k : Bool} (h : ET X a E O k) : ET X (.UnaryOp .Not a pos) E O (!k) := fun σ H R Q q => wt_of (pt_not WT.pt) (by
  refine h σ H R _ fun k1 H1 O1 ⟨e1, e2⟩ s1 => ?_
  subst e1; subst e2
  exact q _ H1 _ ⟨rfl, rfl⟩ s1)
theorem x_one {op : BoolOp} {r : SV} (h : EX X a E O r) : EX X (.BoolOp op [a] pos) E O r := fun σ H R Q q => we_of (pe_one WE.pe) (h σ H R Q q)
theorem x_and {k k' : Bool} (h : EX X a E O (vB k)) (h' : k = true → EX X (.BoolOp .And (b :: es) pos) E O (vB k')) : EX X (.BoolOp .And (a :: b :: es) pos) E O (vB (k && k')) := fun σ H R Q q => we_of (pe_and WE.pe WE.pe) (by
  refine h σ H R _ fun v H1 r O1 ⟨e1, e2⟩ s1 z => ?_
  subst e1; subst e2
  refine ⟨k, bl_of z, ?_⟩
  cases k with
  | true =>
    rw [if_pos rfl]
    exact h' rfl σ H1 (R.step s1) Q fun v H2 r O2 ⟨e1, e2⟩ s2 z2 => by
      subst e1; subst e2
      exact q _ H2 _ _ ⟨by simp, rfl⟩ (s1.trans s2) z2
  | false =>
    rw [if_neg Bool.false_ne_true]
    exact q _ H1 (vB false) _ ⟨by simp, rfl⟩ s1 (.bl false))
theorem x_or {k k' : Bool} (h : EX X a E O (vB k)) (h' : k = false → EX X (.BoolOp .Or (b :: es) pos) E O (vB k')) : EX X (.BoolOp .Or (a :: b :: es) pos) E O (vB (k || k')) := fun σ H R Q q => we_of (pe_or WE.pe WE.pe) (by
  refine h σ H R _ fun v H1 r O1 ⟨e1, e2⟩ s1 z => ?_
  subst e1; subst e2
  refine ⟨k, bl_of z, ?_⟩
  cases k with
  | true =>
    rw [if_pos rfl]
    exact q _ H1 (vB true) _ ⟨by simp, rfl⟩ s1 (.bl true)
  | false =>
    rw [if_neg Bool.false_ne_true]
    exact h' rfl σ H1 (R.step s1) Q fun v H2 r O2 ⟨e1, e2⟩ s2 z2 => by
      subst e1; subst e2
      exact q _ H2 _ _ ⟨by simp, rfl⟩ (s1.trans s2) z2)
theorem x_not {k : Bool} (h : EX X a E O (vB k)) : EX X (.UnaryOp .Not a pos) E O (vB (!k)) := fun σ H R Q q => we_of (pe_not WE.pe) (by
  refine h σ H R _ fun v H1 r O1 ⟨e1, e2⟩ s1 z => ?_
  subst e1; subst e2
  exact ⟨k, bl_of z, q _ H1 _ _ ⟨rfl, rfl⟩ s1 (.bl _)⟩)
/-- a is None, of data -/
def isNon : PyData → Bool
  | .none => true
  | _ => false
theorem dp_non {W : Hp} {v : V} {d : PyData} (h : Dq W v d) : decide (v = .non) = isNon d := by
  cases h <;> rfl
theorem c_isN {d : PyData} {j : Nat} {pos' : Pos} (h : EX X a E O (.d d)) : CX1 X .Is a (.Constant .none j pos') E O (isNon d) := fun σ H R Q q => wc_of (pc_isN WE.pe) (by
  refine h σ H R _ fun v H1 r O1 ⟨e1, e2⟩ s1 z => ?_
  subst e1; subst e2
  exact q _ H1 _ _ ⟨rfl, rfl⟩ s1 (by rw [dp_non z]; exact .bl _))
theorem c_notN {d : PyData} {j : Nat} {pos' : Pos} (h : EX X a E O (.d d)) : CX1 X .IsNot a (.Constant .none j pos') E O (!isNon d) := fun σ H R Q q => wc_of (pc_notN WE.pe) (by
  refine h σ H R _ fun v H1 r O1 ⟨e1, e2⟩ s1 z => ?_
  subst e1; subst e2
  exact q _ H1 _ _ ⟨rfl, rfl⟩ s1 (by rw [dp_non z]; exact .bl _))
/-- a < b < c of ints -/
theorem chain_core {f g : Int → Int → Bool} {k : Int} (ha : EX X a E O (vI i)) (hb : EX X b E O (vI j)) (hc : EX X c E O (vI k)) {σ : L2.St} {H : Hp} (R : Rep X.K E O σ H) {Q : VK} (q : Kont X.K O H (is1 (vB (f i j && g j k)) O) Q) :
    tChain (rI0 fun i j => .bl (f i j)) (rI0 fun i j => .bl (g i j)) (WE X a) (WE X b) (WE X c) σ H Q := by
  refine ha σ H R _ fun x H1 r1 O1 ⟨e1, e2⟩ s1 z1 => ?_
  subst e1; subst e2
  refine hb σ H1 (R.step s1) _ fun y H2 r2 O2 ⟨e1, e2⟩ s2 z2 => ?_
  subst e1; subst e2
  refine ⟨i, j, int_of z1, int_of z2, f i j, rfl, ?_⟩
  cases hf : f i j with
  | true =>
    rw [if_pos rfl]
    refine hc σ H2 (R.step (s1.trans s2)) _ fun w H3 r3 O3 ⟨e1, e2⟩ s3 z3 => ?_
    subst e1; subst e2
    refine ⟨j, k, int_of z2, int_of z3, q _ H3 (vB (g j k)) _ ⟨by simp [hf], rfl⟩ ((s1.trans s2).trans s3) (.bl _)⟩
  | false =>
    rw [if_neg Bool.false_ne_true]
    exact q _ H2 (vB false) _ ⟨by simp [hf], rfl⟩ (s1.trans s2) (.bl _)
theorem x_chain {op op' : CmpOp} {f g : Int → Int → Bool} {k : Int} (h1 : OpR X (compareOp op) (rI0 fun i j => .bl (f i j))) (h2 : OpR X (compareOp op') (rI0 fun i j => .bl (g i j)))
    (ha : EX X a E O (vI i)) (hb : EX X b E O (vI j)) (hc : EX X c E O (vI k)) (hm : lastMarks [op, op'] [b, c] = false := by with_unfolding_all rfl) : EX X (.Compare a [op, op'] [b, c] pos) E O (vB (f i j && g j k)) := fun σ H R Q q => we_of (pe_chain h1 h2 WE.pe WE.pe WE.pe hm) (chain_core ha hb hc R q)
theorem t_chain {op op' : CmpOp} {f g : Int → Int → Bool} {k : Int} (h1 : OpR X (compareOp op) (rI0 fun i j => .bl (f i j))) (h2 : OpR X (compareOp op') (rI0 fun i j => .bl (g i j)))
    (ha : EX X a E O (vI i)) (hb : EX X b E O (vI j)) (hc : EX X c E O (vI k)) (hm : lastMarks [op, op'] [b, c] = false := by with_unfolding_all rfl) : ET X (.Compare a [op, op'] [b, c] pos) E O (f i j && g j k) := fun σ H R Q q => wt_of (pt_chain h1 h2 WE.pe WE.pe WE.pe hm)
  (chain_core (f := f) (g := g) ha hb hc R fun v H' r O' ⟨e1, e2⟩ s z => by
    subst e1; subst e2
    exact ⟨_, bl_of z, q _ H' _ ⟨rfl, rfl⟩ s⟩)

/-! arguments, displays -/
theorem a_nil : EA X [] E O [] := fun σ H R Q q => wa_of pa_nil (q _ H _ _ ⟨rfl, rfl⟩ (.refl R.own) .nil)
theorem a_cons {r : SV} {rs : List SV} (h : EX X e E O r) (hr : EA X es E O rs) (hs : starEach (e :: es) X.env = (false, eval e X.env) :: starEach es X.env := by rfl) : EA X (e :: es) E O (r :: rs) := fun σ H R Q q => wa_of (pa_cons WE.pe WA.pa hs) (by
  refine h σ H R _ fun v H1 r1 O1 ⟨e1, e2⟩ s1 z1 => ?_
  subst e1; subst e2
  refine hr σ H1 (R.step s1) _ fun vs H2 rs2 O2 ⟨e1, e2⟩ s2 z2 => ?_
  subst e1; subst e2
  exact q _ H2 _ _ ⟨rfl, rfl⟩ (s1.trans s2) (.cons (s2.sv z1) z2))
theorem x_tup {ds : List PyData} {k : Nat} (h : EA X es E O (ds.map .d)) (hl : ds.length ≤ 100000) : EX X (.Tuple es k pos) E O (vT ds) := fun σ H R Q q => we_of (pe_tup WA.pa) (by
  refine h σ H R _ fun vs H1 rs O1 ⟨e1, e2⟩ s1 z1 => ?_
  subst e1; subst e2
  have hd := z1.data
  refine ⟨by rw [dpa_len hd]; exact Nat.le_trans hl (by decide), fun p hp => ?_⟩
  have s2 := Stp.laid (o := .tup vs) s1.ok hp
  exact q _ _ _ _ ⟨rfl, rfl⟩ (s1.trans s2) (.tup (.inl (vis_laid s1.ok hp)) (dpAll_sub s2.vis _ _ hd)))
theorem x_lst {ds : List PyData} (h : EA X es E O (ds.map .d)) (hl : ds.length ≤ 100000) : EX X (.List es pos) E O (vL ds) := fun σ H R Q q => we_of (pe_lst WA.pa) (by
  refine h σ H R _ fun vs H1 rs O1 ⟨e1, e2⟩ s1 z1 => ?_
  subst e1; subst e2
  have hd := z1.data
  refine ⟨by rw [dpa_len hd]; exact Nat.le_trans hl (by decide), fun p hp => ?_⟩
  have s2 := Stp.laid (o := .lst vs) s1.ok hp
  exact q _ _ _ _ ⟨rfl, rfl⟩ (s1.trans s2) (.lst (vis_laid s1.ok hp) (dpAll_sub s2.vis _ _ hd)))

/-! subscripts -/
theorem atI_map {W : Hp} {vs : List V} {ds : List PyData} {i : Int} {d : PyData} (h : DqAll W vs ds) (e : atI ds i = some d) : ∃ v, atI vs i = some v ∧ Dq W v d := by
  unfold atI at e ⊢
  rw [dpa_len h]
  cases q : ixN ds.length i with
  | none => rw [q] at e; cases e
  | some j =>
    rw [q] at e
    obtain ⟨v, h1, h2⟩ := dpa_at_ h (show ds[j]? = some d from e)
    exact ⟨v, h1, h2⟩
theorem x_ixT {ds : List PyData} {d : PyData} (ha : EX X a E O (vT ds)) (hb : EX X b E O (vI i)) (h : atI ds i = some d) (hs : PlainIx b := by exact fun _ _ => rfl) : EX X (.Subscript a b pos) E O (.d d) :=
  x_op (pe_ix ix_tup WE.pe WE.pe hs) ha hb fun x y H ok hx hy Q q => by
    obtain ⟨p, vs, e1, h1, h2⟩ := tup_of hx
    obtain ⟨v, h3, h4⟩ := atI_map h2 h
    exact ⟨p, vs, i, v, e1, int_of hy, .inl (rd_sub (vis_sub _ _) h1), h3, q _ H _ _ ⟨rfl, rfl⟩ (.refl ok) h4⟩
theorem x_ixL {ds : List PyData} {d : PyData} (ha : EX X a E O (vL ds)) (hb : EX X b E O (vI i)) (h : atI ds i = some d) (hs : PlainIx b := by exact fun _ _ => rfl) : EX X (.Subscript a b pos) E O (.d d) :=
  x_op (pe_ix ix_list WE.pe WE.pe hs) ha hb fun x y H ok hx hy Q q => by
    obtain ⟨p, vs, e1, h1, h2⟩ := lst_of hx
    obtain ⟨v, h3, h4⟩ := atI_map h2 h
    exact ⟨p, vs, i, v, e1, int_of hy, SqL.of (vis_sub _ _ _ _ h1), h3, q _ H _ _ ⟨rfl, rfl⟩ (.refl ok) h4⟩

/-! calls of built-ins by name -/
theorem g_cb {id : String} {x : Str} {p : Pos} {rr : List V → Hp → VK → Prop} {rs : List SV} {Ψ : SV → Own → Prop} (hc : CallR X (.builtin id) rr) (hg : Gl X x) (hm : X.mg x = none) (hv : bootBuiltins x = some (.builtin id)) (ha : EA X (e :: es) E O rs)
    (h : ∀ vs H, OwnOk X.K O H → SVs X.K (vis O H) vs rs → ∀ Q, Kont X.K O H Ψ Q → rr vs H Q) (hn : x ≠ "__name__") (hdb : (x == ("__debug__" : Str)) = false)
    (he : starEach (e :: es) X.env = (false, eval e X.env) :: starEach es X.env) (hpl : (backTo pos (starEach es X.env)).any (·.1) = false) : EG X (.Call (.Name x p) (e :: es) [] pos) E O Ψ := fun σ H R Q q => we_of (pe_callB hc hg hm hv WA.pa hn hdb he hpl) (by
  refine ha σ H R _ fun vs H1 rs1 O1 ⟨e1, e2⟩ s1 z1 => ?_
  subst e1; subst e2
  exact h vs H1 s1.ok z1 Q fun v H' r O' f s z => q v H' r O' f (s1.trans s) z)
theorem g_ct {id : String} {x : Str} {p : Pos} {rr : List V → Hp → VK → Prop} {rs : List SV} {Ψ : SV → Own → Prop} (hc : CallR X (.type id) rr) (hg : Gl X x) (hm : X.mg x = none) (hv : bootBuiltins x = some (.type id)) (ha : EA X (e :: es) E O rs)
    (h : ∀ vs H, OwnOk X.K O H → SVs X.K (vis O H) vs rs → ∀ Q, Kont X.K O H Ψ Q → rr vs H Q) (hn : x ≠ "__name__") (hdb : (x == ("__debug__" : Str)) = false)
    (he : starEach (e :: es) X.env = (false, eval e X.env) :: starEach es X.env) (hpl : (backTo pos (starEach es X.env)).any (·.1) = false) : EG X (.Call (.Name x p) (e :: es) [] pos) E O Ψ := fun σ H R Q q => we_of (pe_callTy hc hg hm hv WA.pa hn hdb he hpl) (by
  refine ha σ H R _ fun vs H1 rs1 O1 ⟨e1, e2⟩ s1 z1 => ?_
  subst e1; subst e2
  exact h vs H1 s1.ok z1 Q fun v H' r O' f s z => q v H' r O' f (s1.trans s) z)
end
end Py
namespace Py
open PySem PySem.Spec PyProof.Rows L2

/-! ### own objects: made, changed, let go -/
def setO (O : Own) (p : Addr) (o : OO) : Own := O.map fun q => if q.1 = p then (p, o) else q
theorem setO_keys (O : Own) (p : Addr) (o : OO) : (setO O p o).map (·.1) = O.map (·.1) := by
  unfold setO
  rw [List.map_map]
  apply List.map_congr_left
  intro q _
  show (if q.1 = p then (p, o) else q).1 = q.1
  split
  · next h => exact h.symm
  · rfl
section
variable {K : PySem.W.Frag} {O O1 O2 : Own} {H H1 H2 : Hp} {p : Addr} {o : OO} {ho : HO}
theorem Stp.own (ok : OwnOk K O H) (hp : H p = none) (is : ObjIs K (Py.vis ((p, o) :: O) (upd H p ho)) (upd H p ho) p o) : Stp K O H ((p, o) :: O) (upd H p ho) := by
  have k : ∀ a o', H a = some o' → upd H p ho a = some o' := fun a o' e => by rw [upd_ne (ne_of_none e hp)]; exact e
  refine ⟨fun a o' _ e => k a o' e, fun a z => ?_, fun a e => ?_, ?_, fun q hq => ?_⟩
  · rcases List.mem_cons.mp z with z | z
    · rw [show a = p from z]
      exact .inr hp
    · exact .inl z
  · by_cases ha : a = p
    · rw [ha]
      exact hp
    · rw [upd_ne ha] at e
      exact e
  · show (p :: O.map (·.1)).Nodup
    exact List.nodup_cons.mpr ⟨ok.fresh hp, ok.nd⟩
  · rcases List.mem_cons.mp hq with rfl | hq
    · exact is
    · obtain ⟨u, e⟩ := (ok.is q hq).some
      refine (ok.is q hq).sub (fun a o' z => ?_) (by rw [upd_ne (ne_of_none e hp)]) (fun dx z => k _ _ z)
      obtain ⟨z1, z2⟩ := vis_some z
      refine vis_of (fun z => ?_) (k _ _ z2)
      rcases List.mem_cons.mp z with z | z
      · rw [show a = p from z, hp] at z2
        cases z2
      · exact z1 z
theorem vis_put (hp : p ∈ O.map (·.1)) : vis (setO O p o) (upd H p ho) = vis O H := by
  funext a
  unfold vis
  rw [setO_keys]
  by_cases ha : a ∈ O.map (·.1)
  · rw [if_pos ha, if_pos ha]
  · rw [if_neg ha, if_neg ha, upd_ne (fun e => ha (by rw [e]; exact hp))]
theorem Stp.put (ok : OwnOk K O H) (hp : p ∈ O.map (·.1)) (nw : ∀ x, H p ≠ some (.own x)) (is : ObjIs K (Py.vis O H) (upd H p ho) p o) : Stp K O H (setO O p o) (upd H p ho) := by
  refine ⟨fun a o' n e => by rw [upd_ne (fun z => n (by rw [z]; exact hp))]; exact e, fun a z => by rw [setO_keys] at z; exact .inl z, fun a e => ?_, by rw [setO_keys]; exact ok.nd, fun q hq => ?_⟩
  · by_cases ha : a = p
    · subst ha
      rw [upd_same] at e
      cases e
    · rw [upd_ne ha] at e
      exact e
  · rw [vis_put hp]
    obtain ⟨q0, hq0, e⟩ := List.mem_map.mp (show q ∈ O.map _ from hq)
    by_cases hk : q0.1 = p
    · rw [if_pos hk] at e
      subst e
      exact is
    · rw [if_neg hk] at e
      subst e
      refine (ok.is q0 hq0).sub (Sub.refl _) (upd_ne hk) fun dx z => ?_
      rw [upd_ne (fun e => nw q0.1 (by rw [← e]; exact z))]
      exact z
theorem Stp.pop (ok : OwnOk K ((p, o) :: O) H) : Stp K ((p, o) :: O) H O H := by
  refine ⟨fun _ _ _ e => e, fun a z => .inl (List.mem_cons_of_mem _ z), fun _ e => e, (List.nodup_cons.mp ok.nd).2, fun q hq => ?_⟩
  refine (ok.is q (List.mem_cons_of_mem _ hq)).sub (fun a o' z => ?_) rfl (fun _ z => z)
  obtain ⟨z1, z2⟩ := vis_some z
  exact vis_of (fun z => z1 (List.mem_cons_of_mem _ z)) z2
theorem OwnOk.popL {ds : List PyData} (ok : OwnOk K ((p, .lst ds) :: O) H) : SVr K (vis O H) (.ref p) (vL ds) := by
  obtain ⟨vs, h1, h2⟩ := ok.is (p, .lst ds) List.mem_cons_self
  exact .lst (vis_of (List.nodup_cons.mp ok.nd).1 h1) (dpAll_sub (Stp.pop ok).vis _ _ h2)
theorem setO_head {o' : OO} (h : p ∉ O.map (·.1)) : setO ((p, o) :: O) p o' = (p, o') :: O := by
  unfold setO
  rw [List.map_cons, if_pos rfl]
  congr 1
  conv => rhs; rw [← List.map_id O]
  apply List.map_congr_left
  intro q hq
  have : q.1 ≠ p := fun e => h (e ▸ List.mem_map_of_mem hq)
  rw [if_neg this]
  rfl
/-- any own object let go -/
theorem own_eq {r q : Addr × OO} : ∀ {O : Own}, (O.map (·.1)).Nodup → r ∈ O → q ∈ O → r.1 = q.1 → r = q
  | [], _, h, _, _ => by cases h
  | x :: O, hn, h1, h2, e => by
    obtain ⟨n1, n2⟩ := List.nodup_cons.mp hn
    rcases List.mem_cons.mp h1 with a | a
    · rcases List.mem_cons.mp h2 with b | b
      · rw [a, b]
      · exact absurd (show x.1 ∈ O.map (·.1) by rw [← a, e]; exact List.mem_map_of_mem b) n1
    · rcases List.mem_cons.mp h2 with b | b
      · exact absurd (show x.1 ∈ O.map (·.1) by rw [← b, ← e]; exact List.mem_map_of_mem a) n1
      · exact own_eq n2 a b e
def dropO (O : Own) (p : Addr) : Own := O.filter fun q => !(q.1 == p)
theorem dropO_mem {q : Addr × OO} : q ∈ dropO O p ↔ q ∈ O ∧ q.1 ≠ p := by
  unfold dropO
  rw [List.mem_filter]
  simp
theorem dropO_keys {a : Addr} : a ∈ (dropO O p).map (·.1) ↔ a ∈ O.map (·.1) ∧ a ≠ p := by
  constructor
  · intro h
    obtain ⟨q, hq, rfl⟩ := List.mem_map.mp h
    obtain ⟨h1, h2⟩ := dropO_mem.mp hq
    exact ⟨List.mem_map_of_mem h1, h2⟩
  · rintro ⟨h, n⟩
    obtain ⟨q, hq, rfl⟩ := List.mem_map.mp h
    exact List.mem_map_of_mem (dropO_mem.mpr ⟨hq, n⟩)
theorem Stp.drop (ok : OwnOk K O H) (p : Addr) : Stp K O H (dropO O p) H := by
  refine ⟨fun _ _ _ e => e, fun a z => .inl (dropO_keys.mp z).1, fun _ e => e, ?_, fun q hq => ?_⟩
  · exact ok.nd.sublist (List.filter_sublist.map _)
  · refine (ok.is q (dropO_mem.mp hq).1).sub (fun a o' z => ?_) rfl (fun _ z => z)
    obtain ⟨z1, z2⟩ := vis_some z
    exact vis_of (fun z => z1 (dropO_keys.mp z).1) z2
theorem OwnOk.dropL {ds : List PyData} (ok : OwnOk K O H) (h : (p, .lst ds) ∈ O) : SVr K (vis (dropO O p) H) (.ref p) (vL ds) := by
  obtain ⟨vs, h1, h2⟩ := ok.is _ h
  exact .lst (vis_of (fun z => (dropO_keys.mp z).2 rfl) h1) (dpAll_sub (Stp.drop ok p).vis _ _ h2)
end

/-! ### targets -/
def WG (X : Cx) (tg : Expr) : TG := fun v σ H Q => ∀ pins s u, Inv X pins σ H s → RelV v u → wpAny (model X.prog X.w) X.A (assign tg X.env u) (fun _ s' => ∃ σ' H', Inv X pins σ' H' s' ∧ Q σ' H') X.xe s
theorem WG.pg {X : Cx} {tg : Expr} : PG X tg (WG X tg) := ⟨fun pins s _ _ v u _ I r h => h pins s u I r⟩
theorem wg_of {X : Cx} {tg : Expr} {t : TG} {v : V} {σ : L2.St} {H : Hp} {Q : L2.St → Hp → Prop} (p : PG X tg t) (h : t v σ H Q) : WG X tg v σ H Q := fun pins s u I r => p.run pins s σ H v u Q I r h
def WGs (X : Cx) (ts : List Expr) : TGs := fun vs σ H Q => ∀ pins s us, Inv X pins σ H s → Vals vs us → wpAny (model X.prog X.w) X.A (assignInOrder ((assignEach ts X.env).map (·.2)) us) (fun _ s' => ∃ σ' H', Inv X pins σ' H' s' ∧ Q σ' H') X.xe s
theorem WGs.pgs {X : Cx} {ts : List Expr} : PGs X ts (WGs X ts) := ⟨fun pins s _ _ vs us _ I r h => h pins s us I r⟩
theorem wgs_of {X : Cx} {ts : List Expr} {t : TGs} {vs : List V} {σ : L2.St} {H : Hp} {Q : L2.St → Hp → Prop} (p : PGs X ts t) (h : t vs σ H Q) : WGs X ts vs σ H Q := fun pins s us I r => p.run pins s σ H vs us Q I r h
/-- σ' is σ but at ixs -/
def But (ixs : List Nat) (σ σ' : L2.St) : Prop := σ'.length = σ.length ∧ ∀ j : Nat, j ∉ ixs → σ'[j]? = σ[j]?
def TGr (X : Cx) (tg : Expr) (ixs : List Nat) (r : SV) (E E' : En) : Prop := ∀ v σ O H, Rep X.K E O σ H → SVr X.K (vis O H) v r → ∀ Q : L2.St → Hp → Prop, (∀ σ', Rep X.K E' O σ' H → But ixs σ σ' → Q σ' H) → WG X tg v σ H Q
def TGrs (X : Cx) (ts : List Expr) (ixs : List Nat) (ds : List PyData) (E E' : En) : Prop := ∀ vs σ O H, Rep X.K E O σ H → DqAll (vis O H) vs ds → ∀ Q : L2.St → Hp → Prop, (∀ σ', Rep X.K E' O σ' H → But ixs σ σ' → Q σ' H) → WGs X ts vs σ H Q
section
variable {X : Cx} {E E' E'' : En} {pos : Pos} {r : SV}
theorem But.refl (ixs : List Nat) (σ : L2.St) : But ixs σ σ := ⟨rfl, fun _ _ => rfl⟩
theorem But.trans {ixs jxs : List Nat} {σ σ' σ'' : L2.St} (a : But ixs σ σ') (b : But jxs σ' σ'') : But (ixs ++ jxs) σ σ'' := ⟨b.1.trans a.1, fun j h => (b.2 j fun z => h (List.mem_append_right _ z)).trans (a.2 j fun z => h (List.mem_append_left _ z))⟩
theorem But.set (i : Nat) (σ : L2.St) (v : Option V) : But [i] σ (σ.set i v) := ⟨List.length_set, fun j h => List.getElem?_set_ne (fun e => h (by simp [e]))⟩
theorem tg_name (i : Nat) {x : Str} (hN : X.N.Nodup) (hi : X.N[i]? = some x := by rfl) (hx : Loc X.env.scope x := by first | exact Or.inl rfl | exact Or.inr rfl) (hf : X.fn x = true ∨ X.env.scope.names.lookup x = some .local := by first | exact .inl rfl | exact .inr rfl | assumption) : TGr X (.Name x pos) [i] r E (E.set i (some r)) :=
  fun v σ O H R z Q q => wg_of (pg_name hN hi hx hf) (q _ (R.set i z) (.set i σ _))
theorem tgs_nil : TGrs X [] [] [] E E := fun vs σ O H R z Q q => wgs_of pgs_nil (by
  cases z
  exact ⟨rfl, q σ R (.refl _ _)⟩)
theorem tgs_cons {e : Expr} {es : List Expr} {ixs jxs : List Nat} {d : PyData} {ds : List PyData} (h1 : TGr X e ixs (.d d) E E') (h2 : TGrs X es jxs ds E' E'')
    (hs : (assignEach (e :: es) X.env).map (·.2) = assign e X.env :: (assignEach es X.env).map (·.2) := by rfl) : TGrs X (e :: es) (ixs ++ jxs) (d :: ds) E E'' := fun vs σ O H R z Q q => wgs_of (pgs_cons WG.pg WGs.pgs hs) (by
  cases z with
  | cons z zs =>
    refine ⟨_, _, rfl, h1 _ σ O H R z _ fun σ1 R1 b1 => ?_⟩
    exact h2 _ σ1 O H R1 zs _ fun σ2 R2 b2 => q σ2 R2 (b1.trans b2))
theorem tg_tup {es : List Expr} {k : Nat} {ixs : List Nat} {ds : List PyData} (hc : X.calm = true) (h : TGrs X es ixs ds E E')
    (hn : (assignEach es X.env).length = ds.length := by rfl) (hst : (assignEach es X.env).findIdx? (·.1) = none := by rfl) : TGr X (.Tuple es k pos) ixs (vT ds) E E' := fun v σ O H R z Q q => wg_of (pg_tup (n := ds.length) hc WGs.pgs hn hst) (by
  obtain ⟨a, vs, e1, h1, h2⟩ := tup_of z
  exact ⟨a, vs, e1, .inl (rd_sub (vis_sub _ _) h1), dpa_len h2, h vs σ O H R h2 Q q⟩)
theorem TGr.to {tg : Expr} {ixs : List Nat} (h : TGr X tg ixs r E E') (e : E' = E'') : TGr X tg ixs r E E'' := by
  subst e
  exact h
end

/-! ### statements -/
structure PD where
  nx : En → Own → Prop
  rt : SV → Own → Prop
  bk : En → Own → Prop := fun _ _ => False
  ct : En → Own → Prop := fun _ _ => False
structure Ref (K : PySem.W.Frag) (O : Own) (H : Hp) (D : PD) (D' : Ends) : Prop where
  nx : ∀ σ' H' E' O', D.nx E' O' → Stp K O H O' H' → Rep K E' O' σ' H' → D'.nx σ' H'
  rt : ∀ v H' r O', D.rt r O' → Stp K O H O' H' → SVr K (vis O' H') v r → D'.rt v H'
  bk : ∀ σ' H' E' O', D.bk E' O' → Stp K O H O' H' → Rep K E' O' σ' H' → D'.bk σ' H'
  ct : ∀ σ' H' E' O', D.ct E' O' → Stp K O H O' H' → Rep K E' O' σ' H' → D'.ct σ' H'
theorem Ref.step {K : PySem.W.Frag} {O O1 : Own} {H H1 : Hp} {D : PD} {D' : Ends} (r : Ref K O H D D') (s : Stp K O H O1 H1) : Ref K O1 H1 D D' :=
  ⟨fun σ' H' E' O' h q => r.nx σ' H' E' O' h (s.trans q), fun v H' r' O' h q => r.rt v H' r' O' h (s.trans q), fun σ' H' E' O' h q => r.bk σ' H' E' O' h (s.trans q), fun σ' H' E' O' h q => r.ct σ' H' E' O' h (s.trans q)⟩
def SG (X : Cx) (st : Stmt) (E : En) (O : Own) (D : PD) : Prop := ∀ σ H, Rep X.K E O σ H → ∀ D', Ref X.K O H D D' → WS X st D' σ H
def SB (X : Cx) (sts : List Stmt) (E : En) (O : Own) (D : PD) : Prop := ∀ σ H, Rep X.K E O σ H → ∀ D', Ref X.K O H D D' → WSs X sts D' σ H
section
variable {X : Cx} {a b c e : Expr} {st : Stmt} {sts as bs : List Stmt} {E : En} {O : Own} {D : PD} {pos : Pos}
theorem sb_nil (h : D.nx E O) : SB X [] E O D := fun σ H R D' r => wss_of pss_nil (r.nx σ H E O h (.refl R.own) R)
theorem sb_cons (h : SG X st E O { D with nx := fun E' O' => SB X sts E' O' D }) : SB X (st :: sts) E O D := fun σ H R D' r => wss_of (pss_cons WS.ps WSs.pss)
  (h σ H R { D' with nx := WSs X sts D' } ⟨fun σ' H' E' O' hb s R' => hb σ' H' R' D' (r.step s), r.rt, r.bk, r.ct⟩)
theorem s_setG (i : Nat) {x : Str} {pos' : Pos} {Φ : SV → Own → Prop} (hN : X.N.Nodup) (he : EG X e E O Φ) (h : ∀ r O', Φ r O' → D.nx (E.set i (some r)) O') (hi : X.N[i]? = some x := by rfl) (hx : Loc X.env.scope x := by first | exact Or.inl rfl | exact Or.inr rfl)
    (hs : swapsWith e (some (.Name x pos')) pos.line X.env = pure false := by rfl) (hf : X.fn x = true ∨ X.env.scope.names.lookup x = some .local := by first | exact .inl rfl | exact .inr rfl | assumption) : SG X (.Assign [.Name x pos'] e pos) E O D := fun σ H R D' r => ws_of (ps_set hN hi hx WE.pe hs hf) (by
  refine he σ H R _ fun v H1 r1 O1 f s z => ?_
  exact r.nx _ H1 _ O1 (h r1 O1 f) s ((R.step s).set i z))
theorem s_set (i : Nat) {x : Str} {pos' : Pos} {r : SV} (hN : X.N.Nodup) (he : EX X e E O r) (h : D.nx (E.set i (some r)) O) (hi : X.N[i]? = some x := by rfl) (hx : Loc X.env.scope x := by first | exact Or.inl rfl | exact Or.inr rfl)
    (hs : swapsWith e (some (.Name x pos')) pos.line X.env = pure false := by rfl) (hf : X.fn x = true ∨ X.env.scope.names.lookup x = some .local := by first | exact .inl rfl | exact .inr rfl | assumption) : SG X (.Assign [.Name x pos'] e pos) E O D :=
  s_setG i hN he (fun r' O' ⟨e1, e2⟩ => by subst e1; subst e2; exact h) hi hx hs hf
/-- name = [..] new and one's own -/
theorem s_asg {tg : Expr} {ixs : List Nat} {E' : En} {r : SV} (he : EX X e E O r) (hg : TGr X tg ixs r E E') (h : D.nx E' O) (hs : swapsWithSole [tg] e pos.line X.env = pure false := by rfl) (hw : swappedStores [tg] e X.env = pure none := by rfl)
    (h1 : (assignEach [tg] X.env).map (·.2) = [assign tg X.env] := by rfl) : SG X (.Assign [tg] e pos) E O D := fun σ H R D' rf => ws_of (ps_asg WE.pe WG.pg hs hw h1) (by
  refine he σ H R _ fun v H1 r1 O1 ⟨e1, e2⟩ s z => ?_
  subst e1; subst e2
  exact hg v σ _ H1 (R.step s) z _ fun σ' R' _ => rf.nx σ' H1 _ _ h s R')
theorem s_par (i j : Nat) {x y : Str} {px py pt pt2 : Pos} {kt k2 : Nat} {r1 r2 : SV} (hc : X.calm = true) (hN : X.N.Nodup) (ha : EX X a E O r1) (hb : EX X b E O r2) (h : D.nx ((E.set i (some r1)).set j (some r2)) O)
    (q : PS X (.Assign [.Tuple [.Name x px, .Name y py] kt pt] (.Tuple [a, b] k2 pt2) pos) (tPar i j (WA X [a, b]))) (hs : starEach [a, b] X.env = (false, eval a X.env) :: starEach [b] X.env := by rfl) (hs2 : starEach [b] X.env = (false, eval b X.env) :: starEach [] X.env := by rfl) :
    SG X (.Assign [.Tuple [.Name x px, .Name y py] kt pt] (.Tuple [a, b] k2 pt2) pos) E O D := fun σ H R D' rf => ws_of q (by
  refine (a_cons ha (a_cons hb a_nil hs2) hs : EA X [a, b] E O [r1, r2]) σ H R _ fun vs H1 rs O1 ⟨e1, e2⟩ s z => ?_
  subst e1; subst e2
  cases z with
  | cons z1 z =>
    cases z with
    | cons z2 z =>
      cases z
      exact ⟨_, _, rfl, rf.nx _ H1 _ _ h s (((R.step s).set i z1).set j z2)⟩)
theorem s_retG {Φ : SV → Own → Prop} (he : EG X e E O Φ) (h : ∀ r O', Φ r O' → D.rt r O') : SG X (.Return (some e) pos) E O D := fun σ H R D' r => ws_of (ps_ret WE.pe) (by
  refine he σ H R _ fun v H1 r1 O1 f s z => ?_
  exact r.rt v H1 r1 O1 (h r1 O1 f) s z)
theorem s_ret {r : SV} (he : EX X e E O r) (h : D.rt r O) : SG X (.Return (some e) pos) E O D := s_retG he (fun r' O' ⟨e1, e2⟩ => by subst e1; subst e2; exact h)
theorem s_retN (h : D.rt vN O) : SG X (.Return none pos) E O D := fun σ H R D' r => ws_of ps_retN (r.rt .non H vN O h (.refl R.own) .non)
theorem s_exprG {Φ : SV → Own → Prop} (he : EG X e E O Φ) (h : ∀ r O', Φ r O' → D.nx E O') (hs : swapsWith e none pos.line X.env = pure false := by rfl) : SG X (.Expr e pos) E O D := fun σ H R D' r => ws_of (ps_expr WE.pe hs) (by
  refine he σ H R _ fun v H1 r1 O1 f s z => ?_
  exact r.nx σ H1 E O1 (h r1 O1 f) s (R.step s))
theorem s_ifG {Φ : Bool → Own → Prop} (hc : TQ X c E O Φ) (h : ∀ k O', Φ k O' → (k = true → SB X as E O' D) ∧ (k = false → SB X bs E O' D)) : SG X (.If c as bs pos) E O D := fun σ H R D' r => ws_of (ps_if WT.pt WSs.pss WSs.pss) (by
  refine hc σ H R _ fun k H1 O1 f s => ?_
  cases k with
  | true =>
    rw [if_pos rfl]
    exact (h true O1 f).1 rfl σ H1 (R.step s) D' (r.step s)
  | false =>
    rw [if_neg Bool.false_ne_true]
    exact (h false O1 f).2 rfl σ H1 (R.step s) D' (r.step s))
theorem s_if {k : Bool} (hc : ET X c E O k) (h1 : k = true → SB X as E O D) (h2 : k = false → SB X bs E O D) : SG X (.If c as bs pos) E O D := s_ifG hc fun k' O' ⟨e1, e2⟩ => by
  subst e1; subst e2
  exact ⟨h1, h2⟩
theorem s_pass (h : D.nx E O) : SG X (.Pass pos) E O D := fun σ H R D' r => ws_of ps_pass (r.nx σ H E O h (.refl R.own) R)
theorem s_break (h : D.bk E O) : SG X (.Break pos) E O D := fun σ H R D' r => ws_of ps_break (r.bk σ H E O h (.refl R.own) R)
theorem s_cont (h : D.ct E O) : SG X (.Continue pos) E O D := fun σ H R D' r => ws_of ps_continue (r.ct σ H E O h (.refl R.own) R)
theorem s_while {body : List Stmt} (W : Nat → En → Own → Prop) (m0 : Nat) (h0 : W m0 E O)
    (hs : ∀ m E' O', W m E' O' → ∃ k, ET X c E' O' k ∧ (k = true → SB X body E' O' ⟨fun E2 O2 => ∃ m', m' < m ∧ W m' E2 O2, D.rt, D.nx, fun E2 O2 => ∃ m', m' < m ∧ W m' E2 O2⟩) ∧ (k = false → D.nx E' O'))
    (hp : PassesOwn (model X.prog X.w) X.A X.env X.xe := by exact PassesOwn.never) : SG X (.While c body [] pos) E O D := fun σ H R D' r => ws_of (ps_while hp WT.pt WSs.pss) (by
  refine ⟨fun m σ' H' => ∃ E' O', W m E' O' ∧ Stp X.K O H O' H' ∧ Rep X.K E' O' σ' H', ⟨m0, E, O, h0, .refl R.own, R⟩, ?_⟩
  rintro m σ' H' ⟨E', O', w, s, R'⟩
  obtain ⟨k, hc, ht, hf⟩ := hs m E' O' w
  refine hc σ' H' R' _ fun k' H1 O1 ⟨e1, e2⟩ s1 => ?_
  subst e1; subst e2
  cases k' with
  | true =>
    rw [if_pos rfl]
    refine ⟨fun σ2 H2 => ∃ m', m' < m ∧ ∃ E2 O2, W m' E2 O2 ∧ Stp X.K O H O2 H2 ∧ Rep X.K E2 O2 σ2 H2, fun σ2 H2 z => z, ?_⟩
    have s2 := s.trans s1
    refine ht rfl σ' H1 (R'.step s1) _ ⟨?_, ?_, ?_, ?_⟩
    · rintro σ2 H2 E2 O2 ⟨m', hm, w2⟩ s3 R2
      exact ⟨m', hm, E2, O2, w2, s2.trans s3, R2⟩
    · intro v H2 r2 O2 z s3 z2
      exact r.rt v H2 r2 O2 z (s2.trans s3) z2
    · intro σ2 H2 E2 O2 z s3 R2
      exact r.nx σ2 H2 E2 O2 z (s2.trans s3) R2
    · rintro σ2 H2 E2 O2 ⟨m', hm, w2⟩ s3 R2
      exact ⟨m', hm, E2, O2, w2, s2.trans s3, R2⟩
  | false =>
    rw [if_neg Bool.false_ne_true]
    exact r.nx σ' H1 _ _ (hf rfl) (s.trans s1) (R'.step s1))
end

/-! ### what is walked -/
structure Yields {α : Type} (K : PySem.W.Frag) (J : It) (O : Own) (H0 : Hp) (xs : List α) (g : α → SV) : Prop where
  go : ∀ i O' H, Stp K O H0 O' H → i < xs.length → J.go i H
  yld : ∀ i O' H x H', Stp K O H0 O' H → (hi : i < xs.length) → J.yld i H x H' → Stp K O' H O' H' ∧ SVr K (vis O' H') x (g xs[i])
  stop : ∀ O' H, Stp K O H0 O' H → J.stop xs.length H
def IT {α : Type} (X : Cx) (tg iter : Expr) (E : En) (O : Own) (xs : List α) (g : α → SV) : Prop :=
  ∃ wi, PI X tg iter wi ∧ ∀ σ H, Rep X.K E O σ H → ∀ R : It → Hp → Prop, (∀ J H', Stp X.K O H O H' → Yields X.K J O H' xs g → R J H') → wi σ H R
section
variable {X : Cx} {tg iter a b e : Expr} {E : En} {O : Own} {pos : Pos} {α : Type}
theorem it_list {ds : List PyData} (h : EX X iter E O (vL ds)) : IT X tg iter E O ds SV.d := ⟨_, pi_list WE.pe, fun σ H R Q q => by
  refine h σ H R _ fun v H1 r O1 ⟨e1, e2⟩ s z => ?_
  subst e1; subst e2
  obtain ⟨p, vs, rfl, h1, h2⟩ := lst_of z
  have hl := dpa_len h2
  refine ⟨p, rfl, ⟨vs, SqL.of (vis_sub _ _ _ _ h1)⟩, q _ H1 s ⟨fun i O' H' s1 hi => ?_, fun i O' H' x H2 s1 hi y => ?_, fun O' H' s1 => ?_⟩⟩
  · exact ⟨vs, vs[i]'(by omega), SqL.of (vis_sub _ _ _ _ (s1.vis _ _ h1)), List.getElem?_eq_getElem _⟩
  · obtain ⟨rfl, y⟩ := y
    have hv := y vs (SqL.of (vis_sub _ _ _ _ (s1.vis _ _ h1)))
    obtain ⟨d, h3, h4⟩ := dpa_atV h2 hv
    rw [List.getElem?_eq_getElem hi] at h3
    cases h3
    exact ⟨.refl s1.ok, dp_sub s1.vis _ _ h4⟩
  · exact ⟨vs, SqL.of (vis_sub _ _ _ _ (s1.vis _ _ h1)), by omega⟩⟩
theorem it_tup {ds : List PyData} (h : EX X iter E O (vT ds)) : IT X tg iter E O ds SV.d := ⟨_, pi_tup WE.pe, fun σ H R Q q => by
  refine h σ H R _ fun v H1 r O1 ⟨e1, e2⟩ s z => ?_
  subst e1; subst e2
  obtain ⟨p, vs, rfl, h1, h2⟩ := tup_of z
  have hl := dpa_len h2
  refine ⟨p, rfl, ⟨vs, .inl (rd_sub (vis_sub _ _) h1)⟩, q _ H1 s ⟨fun i O' H' s1 hi => ?_, fun i O' H' x H2 s1 hi y => ?_, fun O' H' s1 => ?_⟩⟩
  · exact ⟨vs, vs[i]'(by omega), Or.inl (rd_sub (vis_sub _ _) (rd_sub s1.vis h1)), List.getElem?_eq_getElem _⟩
  · obtain ⟨rfl, y⟩ := y
    have hv := y vs (Or.inl (rd_sub (vis_sub _ _) (rd_sub s1.vis h1)))
    obtain ⟨d, h3, h4⟩ := dpa_atV h2 hv
    rw [List.getElem?_eq_getElem hi] at h3
    cases h3
    exact ⟨.refl s1.ok, dp_sub s1.vis _ _ h4⟩
  · exact ⟨vs, Or.inl (rd_sub (vis_sub _ _) (rd_sub s1.vis h1)), by omega⟩⟩
theorem IT.as {β : Type} {xs : List α} {g : α → SV} {ys : List β} {k : β → SV} (h : IT X tg iter E O xs g) (e : xs.map g = ys.map k) : IT X tg iter E O ys k := by
  obtain ⟨wi, p, q⟩ := h
  refine ⟨wi, p, fun σ H R Q z => q σ H R Q fun J H' s y => z J H' s ?_⟩
  have hl : xs.length = ys.length := by
    have := congrArg List.length e
    simpa using this
  refine ⟨fun i O' H s hi => y.go i O' H s (by omega), fun i O' H x H' s hi w => ?_, fun O' H s => hl ▸ y.stop O' H s⟩
  obtain ⟨w1, w2⟩ := y.yld i O' H x H' s (by omega) w
  refine ⟨w1, ?_⟩
  have e1 : g (xs[i]'(by omega)) = k ys[i] := by
    have h1 : (xs.map g)[i]? = some (g (xs[i]'(by omega))) := by rw [List.getElem?_map, List.getElem?_eq_getElem (by omega)]; rfl
    have h2 : (ys.map k)[i]? = some (k ys[i]) := by rw [List.getElem?_map, List.getElem?_eq_getElem hi]; rfl
    rw [e, h2] at h1
    exact (Option.some.inj h1).symm
  rw [← e1]
  exact w2
theorem yields_range {K : PySem.W.Frag} {H : Hp} {lo : Int} {n : Nat} : Yields K (Itr lo n) O H (List.range n) (fun i => vI (lo + (i : Int))) :=
  ⟨fun i _ _ _ hi => by show i < n; simpa using hi, fun i O' H x H' s hi y => by
    obtain ⟨rfl, rfl⟩ := y
    refine ⟨.refl s.ok, ?_⟩
    rw [List.getElem_range]
    exact .int _, fun _ _ _ => by show n ≤ (List.range n).length; simp⟩
theorem it_range1 {n : Int} {p : Pos} (hg : Gl X "range") (hm : X.mg "range" = none) (h : EX X a E O (vI n)) (hb : -(2 ^ 62) ≤ n ∧ n < 2 ^ 62) (hs : starEach [a] X.env = [(false, eval a X.env)] := by rfl) : IT X tg (.Call (.Name "range" p) [a] [] pos) E O (List.range n.toNat) (fun i => vI (i : Int)) :=
  IT.as (xs := List.range n.toNat) (g := fun i => vI (0 + (i : Int))) ⟨_, pi_range1 hg hm WA.pa hs, fun σ H R Q q => by
    refine (a_cons h a_nil hs : EA X [a] E O [vI n]) σ H R _ fun vs H1 rs O1 ⟨e1, e2⟩ s z => ?_
    subst e1; subst e2
    cases z with
    | cons z1 z =>
      cases z
      exact ⟨n, by rw [int_of z1], hb.1, hb.2, q _ H1 s yields_range⟩⟩ (by simp)
theorem it_range2 {lo n : Int} {p : Pos} (hg : Gl X "range") (hm : X.mg "range" = none) (h1 : EX X a E O (vI lo)) (h2 : EX X b E O (vI n)) (hb : (-(2 ^ 62) ≤ lo ∧ lo < 2 ^ 62) ∧ -(2 ^ 62) ≤ n ∧ n < 2 ^ 62)
    (hs : starEach [a, b] X.env = [(false, eval a X.env), (false, eval b X.env)] := by rfl) (hs2 : starEach [b] X.env = [(false, eval b X.env)] := by rfl) : IT X tg (.Call (.Name "range" p) [a, b] [] pos) E O (List.range (n - lo).toNat) (fun i => vI (lo + (i : Int))) :=
  ⟨_, pi_range2 hg hm WA.pa hs hs2, fun σ H R Q q => by
    refine (a_cons h1 (a_cons h2 a_nil hs2) (by rw [hs, hs2]) : EA X [a, b] E O [vI lo, vI n]) σ H R _ fun vs H1 rs O1 ⟨e1, e2⟩ s z => ?_
    subst e1; subst e2
    cases z with
    | cons z1 z =>
      cases z with
      | cons z2 z =>
        cases z
        exact ⟨lo, n, by rw [int_of z1, int_of z2], ⟨hb.1.1, hb.1.2, hb.2.1, hb.2.2⟩, q _ H1 s yields_range⟩⟩
theorem s_for {body : List Stmt} {D : PD} {xs : List α} {g : α → SV} (hi : IT X tg iter E O xs g) (Pv : Nat → En → Own → Prop) (h0 : Pv 0 E O)
    (hs : ∀ (i : Nat) (E' : En) (O' : Own) (hi : i < xs.length), Pv i E' O' → ∃ E2 ixs, TGr X tg ixs (g xs[i]) E' E2 ∧ SB X body E2 O' ⟨Pv (i + 1), D.rt, D.nx, Pv (i + 1)⟩) (hd : ∀ E' O', Pv xs.length E' O' → D.nx E' O')
    (hc : X.calm = true := by rfl) (hp : PassesOwn (model X.prog X.w) X.A X.env X.xe := by exact PassesOwn.never) (hf : ∀ x, foldedSetIterable iter X.env x = pure x := by intro _; rfl) : SG X (.For tg iter body [] pos) E O D := fun σ H R D' r => by
  obtain ⟨wi, p, q⟩ := hi
  refine ws_of (ps_for hp hc p WG.pg WSs.pss hf) ?_
  refine q σ H R _ fun J H1 s1 y => ?_
  refine ⟨fun i m σ' H' => m = xs.length - i ∧ i ≤ xs.length ∧ ∃ E' O', Pv i E' O' ∧ Stp X.K O H1 O' H' ∧ Rep X.K E' O' σ' H', ⟨xs.length, by simp, Nat.zero_le _, E, O, h0, .refl s1.ok, R.step s1⟩, ?_⟩
  rintro i m σ' H' ⟨rfl, hi, E', O', pv, s, R'⟩
  by_cases hlt : i < xs.length
  · refine .inr ⟨y.go i O' H' s hlt, fun σ2 H2 => ∃ E2 O2, Pv (i + 1) E2 O2 ∧ Stp X.K O H1 O2 H2 ∧ Rep X.K E2 O2 σ2 H2, fun σ2 H2 ⟨E2, O2, z1, z2, z3⟩ => ⟨xs.length - (i + 1), by omega, rfl, hlt, E2, O2, z1, z2, z3⟩, fun x H2 yy => ?_⟩
    obtain ⟨s2, z⟩ := y.yld i O' H' x H2 s hlt yy
    obtain ⟨E2, ixs, ht, hb⟩ := hs i E' O' hlt pv
    refine ht x σ' O' H2 (R'.step s2) z _ fun σ2 R2 _ => ?_
    have s3 := s.trans s2
    refine hb σ2 H2 R2 _ ⟨?_, ?_, ?_, ?_⟩
    · intro σ3 H3 E3 O3 z3 s4 R3
      exact ⟨E3, O3, z3, s3.trans s4, R3⟩
    · intro v H3 r3 O3 z3 s4 z4
      exact r.rt v H3 r3 O3 z3 ((s1.trans s3).trans s4) z4
    · intro σ3 H3 E3 O3 z3 s4 R3
      exact r.nx σ3 H3 E3 O3 z3 ((s1.trans s3).trans s4) R3
    · intro σ3 H3 E3 O3 z3 s4 R3
      exact ⟨E3, O3, z3, s3.trans s4, R3⟩
  · have e : i = xs.length := by omega
    subst e
    exact .inl ⟨y.stop O' H' s, r.nx σ' H' E' O' (hd E' O' pv) (s1.trans s) R'⟩
end

/-! ### comprehensions -/
def wipeE (E : En) : List Nat → En
  | [] => E
  | v :: vs => (wipeE E vs).set v none
theorem wipe_but {σ σ' : L2.St} : ∀ {vs ixs : List Nat}, But ixs σ σ' → (∀ j ∈ ixs, j ∈ vs) → wipe σ' vs = wipe σ vs := fun {vs ixs} b h => by
  apply List.ext_getElem?
  intro j
  by_cases hj : j ∈ vs
  · have key : ∀ (s : L2.St) (vs : List Nat), j ∈ vs → (wipe s vs)[j]? = if j < s.length then some none else none := by
      intro s vs
      induction vs with
      | nil => intro h; cases h
      | cons v r ih =>
        intro h
        unfold wipe
        by_cases e : v = j
        · subst e
          by_cases hl : v < s.length
          · rw [List.getElem?_set_self (by rw [wipe_length]; exact hl), if_pos hl]
          · rw [List.getElem?_eq_none (by rw [List.length_set, wipe_length]; omega), if_neg hl]
        · rw [List.getElem?_set_ne e]
          exact ih ((List.mem_cons.mp h).resolve_left fun z => e z.symm)
    rw [key σ' vs hj, key σ vs hj, b.1]
  · rw [wipe_out hj, wipe_out hj, b.2 j fun z => hj (h j z)]
theorem wipe_wipe (σ : L2.St) (vs : List Nat) : wipe (wipe σ vs) vs = wipe σ vs := by
  have h : But vs σ (wipe σ vs) := ⟨wipe_length σ vs, fun j hj => wipe_out hj⟩
  exact wipe_but h fun _ z => z
theorem wipeE_length (E : En) : ∀ vs : List Nat, (wipeE E vs).length = E.length
  | [] => rfl
  | v :: vs => by unfold wipeE; rw [List.length_set, wipeE_length E vs]
theorem rep_wipe {K : PySem.W.Frag} {E : En} {O : Own} {σ : L2.St} {H : Hp} (R : Rep K E O σ H) : ∀ vs : List Nat, Rep K (wipeE E vs) O (wipe σ vs) H
  | [] => R
  | v :: vs => by
    have R' := rep_wipe R vs
    refine ⟨by unfold wipeE wipe; rw [List.length_set, List.length_set]; exact R'.len, R'.own, fun i r e => ?_⟩
    unfold wipeE at e
    unfold wipe
    by_cases hv : v = i
    · subst hv
      by_cases hl : v < (wipeE E vs).length
      · rw [List.getElem?_set_self hl] at e
        cases e
      · rw [List.getElem?_eq_none (by rw [List.length_set]; omega)] at e
        cases e
    · rw [List.getElem?_set_ne hv] at e ⊢
      exact R'.sl i r e
section
variable {X : Cx} {elt tg iter c : Expr} {ifs : List Expr} {scope : Scope} {own : List (Str × Nat)} {E : En} {O : Own} {pos : Pos} {α : Type}
abbrev Blk (X : Cx) (scope : Scope) (P : Cx → Prop) : Prop := ∀ (s : Shared) (H : Hp) (C : Addr) (cl : List (Str × Addr)) (fp : List Addr), P (X.blk s H scope (compEnvC scope cl C X.env) fp)
def WTs (X : Cx) (ifs : List Expr) : TT := fun σ H Q => ∀ pins s, Inv X pins σ H s → wpAny (model X.prog X.w) X.A (forIn ifs true fun c r => if r = true then do let ok ← isTrue c X.env (eval c X.env); pure (ForInStep.yield ok) else pure (ForInStep.yield r)) (TP X pins σ Q) X.xe s
theorem WTs.pts : PTs X ifs (WTs X ifs) := ⟨fun pins s _ _ _ I h => h pins s I⟩
def TS' (X : Cx) (ifs : List Expr) (E : En) (O : Own) (b : Bool) : Prop := ∀ σ H, Rep X.K E O σ H → ∀ Q : Bool → Hp → Prop, (∀ H', Stp X.K O H O H' → Q b H') → WTs X ifs σ H Q
theorem ts_nil : TS' X [] E O true := fun σ H R Q q => fun pins s I => (pts_nil : PTs X [] tYes).run pins s σ H Q I (q H (.refl R.own))
theorem ts_one {b : Bool} (h : ET X c E O b) : TS' X [c] E O b := fun σ H R Q q => fun pins s I => (pts_one (WT.pt (X := X) (e := c))).run pins s σ H Q I (h σ H R Q fun b' H' O' ⟨e1, e2⟩ s => by
  subst e1; subst e2
  exact q H' s)
/-- the reading of a comprehension -/
theorem lc_core {xs : List α} {g : α → SV} {wi : TI} {vs : List Nat} (ixs : List Nat) (E2 : α → En) (p : α → Bool) (f : α → PyData) (hx : ∀ j ∈ ixs, j ∈ vs) (hlen : xs.length ≤ 100000)
    (hw : ∀ σ H, Rep X.K E O σ H → ∀ R : It → Hp → Prop, (∀ J H', Stp X.K O H O H' → Yields X.K J O H' xs g → R J H') → wi σ H R)
    (htg : ∀ x ∈ xs, Blk X scope fun X' => TGr X' tg ixs (g x) (wipeE E vs) (E2 x))
    (hif : ∀ x ∈ xs, ∀ O', (∀ q ∈ O, q ∈ O') → Blk X scope fun X' => TS' X' ifs (E2 x) O' (p x))
    (hel : ∀ x ∈ xs, p x = true → ∀ O', (∀ q ∈ O, q ∈ O') → Blk X scope fun X' => EX X' elt (E2 x) O' (.d (f x)))
    {σ : L2.St} {H : Hp} (R : Rep X.K E O σ H) {Q : VK} (q : Kont X.K O H (is1 (vL ((xs.filter p).map f)) O) Q) :
    tLc wi (fun v σ H' Q => Blk X scope fun X' => WG X' tg v σ H' Q) (fun σ H' Q => Blk X scope fun X' => WTs X' ifs σ H' Q) (fun σ H' Q => Blk X scope fun X' => WE X' elt σ H' Q) vs σ H Q := by
  refine hw σ H R _ fun J H1 s1 y => fun D hD => ?_
  have own1 : Stp X.K O H1 ((D, .lst []) :: O) (upd H1 D (.lst [])) := Stp.own s1.ok hD ⟨[], upd_same, .nil⟩
  refine ⟨fun i m H' => m = xs.length - i ∧ i ≤ xs.length ∧ Stp X.K O H1 ((D, .lst (((xs.take i).filter p).map f)) :: O) H', ⟨xs.length, by simp, Nat.zero_le _, own1⟩, ?_⟩
  rintro i m H' ⟨rfl, hi, s⟩
  by_cases hlt : i < xs.length
  · refine .inr ⟨y.go i _ H' s hlt, fun H2 => Stp X.K O H1 ((D, .lst (((xs.take (i + 1)).filter p).map f)) :: O) H2, fun H2 z => ⟨xs.length - (i + 1), by omega, rfl, hlt, z⟩, fun x H2 yy => ?_⟩
    obtain ⟨s2, z⟩ := y.yld i _ H' x H2 s hlt yy
    have R2 : Rep X.K (wipeE E vs) ((D, .lst (((xs.take i).filter p).map f)) :: O) (wipe σ vs) H2 := (rep_wipe R vs).step ((s1.trans s).trans s2)
    have hm : xs[i] ∈ xs := List.getElem_mem hlt
    have sub : ∀ q ∈ O, q ∈ ((D, OO.lst (((xs.take i).filter p).map f)) :: O) := fun _ z => List.mem_cons_of_mem _ z
    have tk : xs.take (i + 1) = xs.take i ++ [xs[i]] := by rw [List.take_add_one, List.getElem?_eq_getElem hlt]; rfl
    intro s0 H0 C cl fp
    refine htg _ hm s0 H0 C cl fp x (wipe σ vs) _ H2 R2 z _ fun σ3 R3 b3 => ⟨?_, ?_⟩
    · rw [wipe_but b3 hx, wipe_wipe]
    · intro s0 H0 C cl fp
      refine hif _ hm _ sub s0 H0 C cl fp σ3 H2 R3 _ fun H3 s3 => ?_
      have s23 := (s.trans s2).trans s3
      cases hp : p xs[i] with
      | true =>
        rw [if_pos rfl]
        intro s0 H0 C cl fp
        refine hel _ hm hp _ sub s0 H0 C cl fp σ3 H3 (R3.step s3) _ fun v H4 r4 O4 ⟨e1, e2⟩ s4 z4 => ?_
        subst e1; subst e2
        have s5 := s23.trans s4
        obtain ⟨acc, h1, h2⟩ := s5.ok.is (D, .lst (((xs.take i).filter p).map f)) List.mem_cons_self
        have hD' : D ∉ O.map (·.1) := (List.nodup_cons.mp s5.ok.nd).1
        refine ⟨acc, h1, ?_, ?_⟩
        · rw [dpa_len h2]
          have e1 := List.length_filter_le p (xs.take i)
          rw [List.length_take] at e1
          rw [List.length_map]
          exact Nat.lt_of_le_of_lt (show _ ≤ 100000 by omega) (by decide)
        · have s6 := Stp.put (o := .lst (((xs.take (i + 1)).filter p).map f)) (ho := .lst (acc ++ [v])) (p := D) s5.ok (by simp) (fun x e => by rw [h1] at e; cases e) ⟨acc ++ [v], upd_same, by
            rw [tk, List.filter_append, List.map_append]
            refine dpa_app h2 ?_
            rw [List.filter_cons, if_pos hp]
            exact .cons z4 .nil⟩
          rw [setO_head hD'] at s6
          exact s5.trans s6
      | false =>
        rw [if_neg Bool.false_ne_true]
        rw [tk, List.filter_append, List.filter_cons, if_neg (by rw [hp]; decide), List.filter_nil, List.append_nil]
        exact s23
  · have e : i = xs.length := by omega
    subst e
    refine .inl ⟨y.stop _ H' s, ?_⟩
    rw [List.take_length] at s
    exact q _ H' _ _ ⟨rfl, rfl⟩ ((s1.trans s).trans (Stp.pop s.ok)) s.ok.popL
/-- [elt for tg in iter if c] -/
theorem x_lc {xs : List α} {g : α → SV} (own : List (Str × Nat)) (ixs : List Nat) (E2 : α → En) (p : α → Bool) (f : α → PyData) (hN : X.N.Nodup) (hi : IT X tg iter E O xs g) (ok : BlkOk X.N X.env.scope scope own) (hlen : xs.length ≤ 100000)
    (htg : ∀ x ∈ xs, Blk X scope fun X' => TGr X' tg ixs (g x) (wipeE E (own.map (·.2))) (E2 x))
    (hif : ∀ x ∈ xs, ∀ O', (∀ q ∈ O, q ∈ O') → Blk X scope fun X' => ET X' c (E2 x) O' (p x))
    (hel : ∀ x ∈ xs, p x = true → ∀ O', (∀ q ∈ O, q ∈ O') → Blk X scope fun X' => EX X' elt (E2 x) O' (.d (f x)))
    (hx : ∀ j ∈ ixs, j ∈ own.map (·.2) := by decide) (hc : X.calm = true := by rfl) (hs : ∀ x, foldedSetIterable iter X.env x = pure x := by intro _; rfl) : EX X (.ListComp elt [⟨tg, iter, [c], 0⟩] scope pos) E O (vL ((xs.filter p).map f)) := fun σ H R Q q => by
  obtain ⟨wi, pi, hw⟩ := hi
  refine we_of (pe_lc (own := own) (g := fun v σ H' Q => Blk X scope fun X' => WG X' tg v σ H' Q) (tt := fun σ H' Q => Blk X scope fun X' => WTs X' [c] σ H' Q) (te := fun σ H' Q => Blk X scope fun X' => WE X' elt σ H' Q) hc hN pi ok (fun s H C cl fp => ⟨fun pins s1 σ1 H1 v u Q1 I r h => h s H C cl fp pins s1 u I r⟩) (fun s H C cl fp => ⟨fun pins s1 σ1 H1 Q1 I h => h s H C cl fp pins s1 I⟩) (fun s H C cl fp => ⟨fun pins s1 σ1 H1 Q1 I h => h s H C cl fp pins s1 I⟩) hs) ?_
  exact lc_core ixs E2 p f hx hlen hw htg (fun x hx O' hO s H C cl fp => ts_one (hif x hx O' hO s H C cl fp)) hel R q
theorem x_lc0 {xs : List α} {g : α → SV} (own : List (Str × Nat)) (ixs : List Nat) (E2 : α → En) (f : α → PyData) (hN : X.N.Nodup) (hi : IT X tg iter E O xs g) (ok : BlkOk X.N X.env.scope scope own) (hlen : xs.length ≤ 100000)
    (htg : ∀ x ∈ xs, Blk X scope fun X' => TGr X' tg ixs (g x) (wipeE E (own.map (·.2))) (E2 x))
    (hel : ∀ x ∈ xs, ∀ O', (∀ q ∈ O, q ∈ O') → Blk X scope fun X' => EX X' elt (E2 x) O' (.d (f x)))
    (hx : ∀ j ∈ ixs, j ∈ own.map (·.2) := by decide) (hc : X.calm = true := by rfl) (hs : ∀ x, foldedSetIterable iter X.env x = pure x := by intro _; rfl) : EX X (.ListComp elt [⟨tg, iter, [], 0⟩] scope pos) E O (vL (xs.map f)) := fun σ H R Q q => by
  obtain ⟨wi, pi, hw⟩ := hi
  refine we_of (pe_lc (own := own) (g := fun v σ H' Q => Blk X scope fun X' => WG X' tg v σ H' Q) (tt := fun σ H' Q => Blk X scope fun X' => WTs X' [] σ H' Q) (te := fun σ H' Q => Blk X scope fun X' => WE X' elt σ H' Q) hc hN pi ok (fun s H C cl fp => ⟨fun pins s1 σ1 H1 v u Q1 I r h => h s H C cl fp pins s1 u I r⟩) (fun s H C cl fp => ⟨fun pins s1 σ1 H1 Q1 I h => h s H C cl fp pins s1 I⟩) (fun s H C cl fp => ⟨fun pins s1 σ1 H1 Q1 I h => h s H C cl fp pins s1 I⟩) hs) ?_
  refine lc_core ixs E2 (fun _ => true) f hx hlen hw htg (fun x hx O' hO s H C cl fp => ts_nil) (fun x hx _ => hel x hx) R ?_
  rw [List.filter_eq_self.mpr (fun _ _ => rfl)]
  exact q
/-- name = [elt for tg in iter if c], on one line -/
theorem s_lc {D : PD} {xs : List α} {g : α → SV} {y : Str} {py spos : Pos} (i : Nat) (own : List (Str × Nat)) (ixs : List Nat) (E2 : α → En) (p : α → Bool) (f : α → PyData) (hN : X.N.Nodup) (hi : IT X tg iter E O xs g) (ok : BlkOk X.N X.env.scope scope own) (hlen : xs.length ≤ 100000)
    (hsw : swapsWith (.ListComp elt [⟨tg, iter, [c], 0⟩] scope pos) (some (.Name y py)) spos.line X.env = pure true)
    (htg : ∀ x ∈ xs, Blk X scope fun X' => TGr X' tg ixs (g x) (wipeE E (own.map (·.2))) (E2 x))
    (hif : ∀ x ∈ xs, ∀ O', (∀ q ∈ O, q ∈ O') → Blk X scope fun X' => ET X' c (E2 x) O' (p x))
    (hel : ∀ x ∈ xs, p x = true → ∀ O', (∀ q ∈ O, q ∈ O') → Blk X scope fun X' => EX X' elt (E2 x) O' (.d (f x)))
    (h : D.nx (E.set i (some (vL ((xs.filter p).map f)))) O)
    (hy : X.N[i]? = some y := by rfl) (hyl : X.env.scope.names.lookup y = some .local := by rfl)
    (hx : ∀ j ∈ ixs, j ∈ own.map (·.2) := by decide) (hc : X.calm = true := by rfl) (hs : ∀ x, foldedSetIterable iter X.env x = pure x := by intro _; rfl) : SG X (.Assign [.Name y py] (.ListComp elt [⟨tg, iter, [c], 0⟩] scope pos) spos) E O D := fun σ H R D' rf => by
  obtain ⟨wi, pi, hw⟩ := hi
  refine ws_of (ps_setLc (own := own) (g := fun v σ H' Q => Blk X scope fun X' => WG X' tg v σ H' Q) (tt := fun σ H' Q => Blk X scope fun X' => WTs X' [c] σ H' Q) (te := fun σ H' Q => Blk X scope fun X' => WE X' elt σ H' Q) hc hN hy hyl hsw pi ok (fun s H C cl fp => ⟨fun pins s1 σ1 H1 v u Q1 I r h => h s H C cl fp pins s1 u I r⟩) (fun s H C cl fp => ⟨fun pins s1 σ1 H1 Q1 I h => h s H C cl fp pins s1 I⟩) (fun s H C cl fp => ⟨fun pins s1 σ1 H1 Q1 I h => h s H C cl fp pins s1 I⟩) hs) ?_
  refine lc_core ixs E2 p f hx hlen hw htg (fun x hx O' hO s H C cl fp => ts_one (hif x hx O' hO s H C cl fp)) hel R fun v H1 r O1 ⟨e1, e2⟩ s z => ?_
  subst e1; subst e2
  exact rf.nx _ H1 _ _ h s ((R.step s).set i z)
theorem s_lc0 {D : PD} {xs : List α} {g : α → SV} {y : Str} {py spos : Pos} (i : Nat) (own : List (Str × Nat)) (ixs : List Nat) (E2 : α → En) (f : α → PyData) (hN : X.N.Nodup) (hi : IT X tg iter E O xs g) (ok : BlkOk X.N X.env.scope scope own) (hlen : xs.length ≤ 100000)
    (hsw : swapsWith (.ListComp elt [⟨tg, iter, [], 0⟩] scope pos) (some (.Name y py)) spos.line X.env = pure true)
    (htg : ∀ x ∈ xs, Blk X scope fun X' => TGr X' tg ixs (g x) (wipeE E (own.map (·.2))) (E2 x))
    (hel : ∀ x ∈ xs, ∀ O', (∀ q ∈ O, q ∈ O') → Blk X scope fun X' => EX X' elt (E2 x) O' (.d (f x)))
    (h : D.nx (E.set i (some (vL (xs.map f)))) O)
    (hy : X.N[i]? = some y := by rfl) (hyl : X.env.scope.names.lookup y = some .local := by rfl)
    (hx : ∀ j ∈ ixs, j ∈ own.map (·.2) := by decide) (hc : X.calm = true := by rfl) (hs : ∀ x, foldedSetIterable iter X.env x = pure x := by intro _; rfl) : SG X (.Assign [.Name y py] (.ListComp elt [⟨tg, iter, [], 0⟩] scope pos) spos) E O D := fun σ H R D' rf => by
  obtain ⟨wi, pi, hw⟩ := hi
  refine ws_of (ps_setLc (own := own) (g := fun v σ H' Q => Blk X scope fun X' => WG X' tg v σ H' Q) (tt := fun σ H' Q => Blk X scope fun X' => WTs X' [] σ H' Q) (te := fun σ H' Q => Blk X scope fun X' => WE X' elt σ H' Q) hc hN hy hyl hsw pi ok (fun s H C cl fp => ⟨fun pins s1 σ1 H1 v u Q1 I r h => h s H C cl fp pins s1 u I r⟩) (fun s H C cl fp => ⟨fun pins s1 σ1 H1 Q1 I h => h s H C cl fp pins s1 I⟩) (fun s H C cl fp => ⟨fun pins s1 σ1 H1 Q1 I h => h s H C cl fp pins s1 I⟩) hs) ?_
  refine lc_core ixs E2 (fun _ => true) f hx hlen hw htg (fun x hx O' hO s H C cl fp => ts_nil) (fun x hx _ => hel x hx) R fun v H1 r O1 ⟨e1, e2⟩ s z => ?_
  subst e1; subst e2
  rw [List.filter_eq_self.mpr (fun _ _ => rfl)] at z
  exact rf.nx _ H1 _ _ h s ((R.step s).set i z)
end

/-! ### defs -/
abbrev FSpec := List SV → Own → (SV → Own → Prop) → Prop
def spOf (K : PySem.W.Frag) (T : FSpec) : Sp := fun vs H Q _ => ∃ O rs Φ, OwnOk K O H ∧ SVs K (vis O H) vs rs ∧ T rs O Φ ∧ Kont K O H Φ Q
/-- a def of data alone -/
def pure1 (R : List PyData → PyData → Prop) : FSpec := fun rs O Φ => ∃ ds d, rs = ds.map .d ∧ R ds d ∧ Φ (.d d) O
structure Fn (P : Program) (w : World) (K : PySem.W.Frag) (mg : Str → Option Value) (base : Heap) (x : Str) (k : Nat) (T : FSpec) : Prop where
  ex : ∃ f fd ps, FnOk P w K mg base CX0 k f fd ps (spOf K T) ∧ mg x = some (.ref f) ∧ PySem.W.keepIn K (.ref f) = true ∧ Binds K fd ps []
theorem Fn.mono {P : Program} {w : World} {K : PySem.W.Frag} {mg : Str → Option Value} {base : Heap} {x : Str} {k k' : Nat} {T : FSpec} (h : Fn P w K mg base x k T) (hk : k ≤ k') : Fn P w K mg base x k' T := by
  obtain ⟨f, fd, ps, h1, h2⟩ := h.ex
  exact ⟨f, fd, ps, h1.mono hk, h2⟩
def startE (N : List Str) (rs : List SV) : En := rs.map some ++ List.replicate (N.length - rs.length) none
theorem rep_start {K : PySem.W.Frag} {O : Own} {H : Hp} {N : List Str} {vs : List V} {rs : List SV} (ok : OwnOk K O H) (h : SVs K (vis O H) vs rs) : Rep K (startE N rs) O (L2.start N vs) H := by
  have hl := h.len
  refine ⟨by unfold L2.start startE; simp [hl], ok, fun i r e => ?_⟩
  have key : ∀ {vs : List V} {rs : List SV}, SVs K (vis O H) vs rs → ∀ (i : Nat) (r : SV), rs[i]? = some r → ∃ v, vs[i]? = some v ∧ SVr K (vis O H) v r := by
    intro vs rs h
    induction h with
    | nil => intro i r e; simp at e
    | cons h1 h2 ih =>
      intro i r e
      cases i with
      | zero =>
        simp at e
        subst e
        exact ⟨_, rfl, h1⟩
      | succ i =>
        obtain ⟨v, q1, q2⟩ := ih i r (by simpa using e)
        exact ⟨v, by simpa using q1, q2⟩
  unfold startE at e
  unfold L2.start
  by_cases hi : i < rs.length
  · rw [List.getElem?_append_left (by simpa using hi), List.getElem?_map] at e
    obtain ⟨r', e1, e2⟩ := Option.map_eq_some_iff.mp e
    cases e2
    obtain ⟨v, q1, q2⟩ := key h i r e1
    exact ⟨v, by rw [List.getElem?_append_left (by simpa [hl] using hi), List.getElem?_map, q1]; rfl, q2⟩
  · rw [List.getElem?_append_right (by simpa using hi), List.getElem?_replicate] at e
    split at e <;> cases e
theorem fn_mk {P : Program} {w : World} {K : PySem.W.Frag} {mg : Str → Option Value} {base : Heap} {x qual : Str} {st : Stmt} {f : Addr} {fd : FuncData} {N ps : List Str} {k : Nat} {T : FSpec} (F : Fun K x qual st f fd) (S : FnScope N ps (defScope st)) (hm : mg x = some (.ref f)) (hb : Binds K fd ps [])
    (len : ∀ rs O Φ, T rs O Φ → rs.length = ps.length)
    (hbody : ∀ (X : Cx) (cdv : Value) (A : Around) (outer : List Env) (s : Shared) (H : Hp) (E : XK) (rs : List SV) (O : Own) (Φ : SV → Own → Prop), X = (cxOf CX0 P w K mg base N qual (defScope st) f cdv A outer s H E).nox → Room k X.A → T rs O Φ →
      SB (cxOf CX0 P w K mg base N qual (defScope st) f cdv A outer s H E).nox (defBody st) (startE N rs) O ⟨fun _ O' => Φ vN O', Φ, fun _ _ => False, fun _ _ => False⟩) : Fn P w K mg base x (k + 1) T := by
  refine ⟨f, fd, ps, F.ok S (fun vs H Q E h => ?_) (fun cdv A outer s H vs Q E hr h => ?_), hm, F.kp, hb⟩
  · obtain ⟨O, rs, Φ, ok, h1, h2, _⟩ := h
    rw [h1.len]
    exact len rs O Φ h2
  · obtain ⟨O, rs, Φ, ok, h1, h2, h3⟩ := h
    refine ⟨_, WSs.pss, ?_⟩
    refine hbody _ cdv A outer s H E rs O Φ rfl hr h2 (L2.start N vs) H (rep_start ok h1) _ ⟨?_, ?_, ?_, ?_⟩
    · intro σ' H' E' O' z s R'
      exact h3 .non H' vN O' z s .non
    · intro v H' r O' z s z2
      exact h3 v H' r O' z s z2
    · intro _ _ _ _ z
      exact z.elim
    · intro _ _ _ _ z
      exact z.elim
section
variable {X : Cx} {e : Expr} {es : List Expr} {E : En} {O : Own} {pos p : Pos}
theorem g_call {x : Str} {k : Nat} {T : FSpec} {rs : List SV} {Φ : SV → Own → Prop} (F : Fn X.prog X.w X.K X.mg X.base x k T) (hr : Room k X.A) (ha : EA X (e :: es) E O rs) (hT : T rs O Φ) (hg : Gl X x := by rfl) (hdb : (x == ("__debug__" : Str)) = false := by decide) (he : starEach (e :: es) X.env = (false, eval e X.env) :: starEach es X.env := by rfl) (hpl : (backTo pos (starEach es X.env)).any (·.1) = false := by rfl) :
    EG X (.Call (.Name x p) (e :: es) [] pos) E O Φ := fun σ H R Q q => by
  obtain ⟨f, fd, ps, h1, h2, h3, h4⟩ := F.ex
  refine we_of (pe_call h1 hr hg h2 h3 h4 .nil pass0 WA.pa hdb he hpl) ?_
  refine ha σ H R _ fun vs H1 rs1 O1 ⟨e1, e2⟩ s1 z1 => ?_
  subst e1; subst e2
  refine ⟨_, _, Φ, s1.ok, by rw [List.append_nil]; exact z1, hT, fun v H' r O' f s z => q v H' r O' f (s1.trans s) z⟩
theorem x_call {x : Str} {k : Nat} {Rl : List PyData → PyData → Prop} {ds : List PyData} {d : PyData} (F : Fn X.prog X.w X.K X.mg X.base x k (pure1 Rl)) (hr : Room k X.A) (ha : EA X (e :: es) E O (ds.map .d)) (hT : Rl ds d) (hg : Gl X x := by rfl) (hdb : (x == ("__debug__" : Str)) = false := by decide) (he : starEach (e :: es) X.env = (false, eval e X.env) :: starEach es X.env := by rfl) (hpl : (backTo pos (starEach es X.env)).any (·.1) = false := by rfl) :
    EX X (.Call (.Name x p) (e :: es) [] pos) E O (.d d) := g_call F hr ha ⟨ds, d, rfl, hT, rfl, rfl⟩ hg hdb he hpl
end
end Py
namespace Py
open PySem PySem.Spec PyProof.Rows L2
def Has (K : PySem.W.Frag) (mg : Str → Option Value) (x : Str) (st : Stmt) : Prop := ∃ f fd, FunD K x x (defArgs st) (defBody st) (defScope st) [] [] f fd ∧ mg x = some (.ref f)
section
variable {P : Program} {w : World} {K : PySem.W.Frag} {mg : Str → Option Value} {base : Heap} {x : Str} {st : Stmt} {N ps : List Str} {k : Nat} {T : FSpec}
theorem fn_at {f : Addr} {fd : FuncData} (F : FunD K x x (defArgs st) (defBody st) (defScope st) [] [] f fd) (S : FnScope N ps (defScope st))
    (len : ∀ rs O Φ, T rs O Φ → rs.length = ps.length)
    (hbody : ∀ (cdv : Value) (A : Around) (outer : List Env) (s : Shared) (H : Hp) (E : XK) (rs : List SV) (O : Own) (Φ : SV → Own → Prop), Room k (cxOf CX0 P w K mg base N x (defScope st) f cdv A outer s H E).nox.A → T rs O Φ →
      SB (cxOf CX0 P w K mg base N x (defScope st) f cdv A outer s H E).nox (defBody st) (startE N rs) O ⟨fun _ O' => Φ vN O', Φ, fun _ _ => False, fun _ _ => False⟩) : FnOk P w K mg base CX0 (k + 1) f fd ps (spOf K T) := by
  refine F.ok S (fun vs H Q E h => ?_) (fun cdv A outer s H vs Q E hr h => ?_)
  · obtain ⟨O, rs, Φ, ok, h1, h2, _⟩ := h
    rw [h1.len]
    exact len rs O Φ h2
  · obtain ⟨O, rs, Φ, ok, h1, h2, h3⟩ := h
    refine ⟨_, PSs.nox WSs.pss, ?_⟩
    refine hbody cdv A outer s H E rs O Φ hr h2 (L2.start N vs) H (rep_start ok h1) _ ⟨?_, ?_, ?_, ?_⟩
    · intro σ' H' E' O' z s R'
      exact h3 .non H' vN O' z s .non
    · intro v H' r O' z s z2
      exact h3 v H' r O' z s z2
    · intro _ _ _ _ z
      exact z.elim
    · intro _ _ _ _ z
      exact z.elim
theorem fn_mk2 (F : Has K mg x st) (S : FnScope N ps (defScope st))
    (hb : ∀ (kV doc pm : Value) (an : Option Addr) (cdv ct : Value) (us : List Value), us.length = ps.length → bindArgs (PySem.W.fnOf x x (defArgs st) (defBody st) (defScope st) .none kV doc pm an cdv ct) ⟨us, []⟩ = pure (ps.zip us))
    (len : ∀ rs O Φ, T rs O Φ → rs.length = ps.length)
    (hbody : ∀ (f : Addr) (cdv : Value) (A : Around) (outer : List Env) (s : Shared) (H : Hp) (E : XK) (rs : List SV) (O : Own) (Φ : SV → Own → Prop), Room k (cxOf CX0 P w K mg base N x (defScope st) f cdv A outer s H E).nox.A → T rs O Φ →
      SB (cxOf CX0 P w K mg base N x (defScope st) f cdv A outer s H E).nox (defBody st) (startE N rs) O ⟨fun _ O' => Φ vN O', Φ, fun _ _ => False, fun _ _ => False⟩) : Fn P w K mg base x (k + 1) T := by
  obtain ⟨f, fd, F, hm⟩ := F
  exact ⟨f, fd, ps, fn_at F S len (hbody f), hm, F.kp, F.bindsN hb⟩
/-- the law's own promise -/
def T_law : FSpec := fun rs O Φ => ∃ ns : List Int, ns.length ≤ 63 ∧ rs = [.s ns] ∧ Φ (vB true) O
theorem vis_nil (H : Hp) : vis [] H = H := by
  funext a
  unfold vis
  rw [if_neg (by simp)]
theorem sp_law {H : Hp} {a : Addr} {ns : List Int} (hl : ns.length ≤ 63) (hS : SqL K H a (ns.map V.int)) : spOf K T_law [.ref a] H (fun v _ => v = .bl true) fun _ _ _ => False := by
  refine ⟨[], [.s ns], is1 (vB true) [], ⟨List.nodup_nil, fun _ z => nomatch z⟩, .cons ?_ .nil, ⟨ns, hl, rfl, rfl, rfl⟩, ?_⟩
  · rw [vis_nil]
    exact ⟨a, rfl, hS⟩
  · rintro v H' r O' ⟨rfl, rfl⟩ s z
    exact bl_of z
end
end Py
namespace Py
open PySem PySem.Spec PyProof.Rows L2

section
variable {X : Cx} {a b c e o : Expr} {es : List Expr} {E : En} {O : Own} {pos p p' pos' : Pos}

/-! ### arguments that are data -/
def EAd (X : Cx) (es : List Expr) (E : En) (O : Own) (ds : List PyData) : Prop := EA X es E O (ds.map .d)
theorem ad_nil : EAd X [] E O [] := a_nil
theorem ad_cons {d : PyData} {ds : List PyData} (h : EX X e E O (.d d)) (hr : EAd X es E O ds) (hs : starEach (e :: es) X.env = (false, eval e X.env) :: starEach es X.env := by rfl) : EAd X (e :: es) E O (d :: ds) := a_cons h hr hs
theorem y_tup {ds : List PyData} {k : Nat} (h : EAd X es E O ds) (hl : Nat.ble ds.length 100000 = true := by rfl) : EX X (.Tuple es k pos) E O (vT ds) := x_tup h (Nat.le_of_ble_eq_true hl)
theorem y_lst {ds : List PyData} (h : EAd X es E O ds) (hl : Nat.ble ds.length 100000 = true := by rfl) : EX X (.List es pos) E O (vL ds) := x_lst h (Nat.le_of_ble_eq_true hl)
theorem y_call {x : Str} {k : Nat} {Rl : List PyData → PyData → Prop} {ds : List PyData} {d : PyData} (F : Fn X.prog X.w X.K X.mg X.base x k (pure1 Rl)) (hr : Room k X.A) (ha : EAd X (e :: es) E O ds) (hT : Rl ds d) (hg : Gl X x := by rfl) (hdb : (x == ("__debug__" : Str)) = false := by decide) (he : starEach (e :: es) X.env = (false, eval e X.env) :: starEach es X.env := by rfl) (hpl : (backTo pos (starEach es X.env)).any (·.1) = false := by rfl) :
    EX X (.Call (.Name x p) (e :: es) [] pos) E O (.d d) := x_call F hr ha hT hg hdb he hpl

/-! ### states that say less -/
inductive Ag : En → En → Prop
  | nil : Ag [] []
  | same {r : SV} {E E' : En} : Ag E E' → Ag (some r :: E) (some r :: E')
  | skip {x : Option SV} {E E' : En} : Ag E E' → Ag (none :: E) (x :: E')
theorem Ag.len : ∀ {E E' : En}, Ag E E' → E.length = E'.length
  | _, _, .nil => rfl
  | _, _, .same h => by rw [List.length_cons, List.length_cons, h.len]
  | _, _, .skip h => by rw [List.length_cons, List.length_cons, h.len]
theorem Ag.get : ∀ {E E' : En}, Ag E E' → ∀ (i : Nat) (r : SV), E[i]? = some (some r) → E'[i]? = some (some r)
  | _, _, .nil, i, r, e => by simp at e
  | _, _, .same h, 0, r, e => by simpa using e
  | _, _, .same h, i + 1, r, e => by simpa using h.get i r (by simpa using e)
  | _, _, .skip h, 0, r, e => by simp at e
  | _, _, .skip h, i + 1, r, e => by simpa using h.get i r (by simpa using e)
theorem Ag.refl : ∀ E : En, Ag E E
  | [] => .nil
  | some _ :: E => .same (Ag.refl E)
  | none :: E => .skip (Ag.refl E)
theorem Rep.ag {K : PySem.W.Frag} {E' : En} {σ : L2.St} {H : Hp} (R : Rep K E O σ H) (h : Ag E' E) : Rep K E' O σ H := R.weak h.len h.get
theorem sb_ag {D : PD} {sts : List Stmt} {E' : En} (g : Ag E' E) (h : SB X sts E' O D) : SB X sts E O D := fun σ H R D' rf => h σ H (R.ag g) D' rf
/-- for, by a state t of one's own: E0, O0 tell what it means -/
theorem sb_for {α τ : Type} {tg iter : Expr} {body rest : List Stmt} {D : PD} {xs : List α} {g : α → SV} (hi : IT X tg iter E O xs g) (E0 : Nat → τ → En) (O0 : Nat → τ → Own) (I : Nat → τ → Prop) (t0 : τ) (h0 : I 0 t0) (hE : Ag (E0 0 t0) E) (hO : O = O0 0 t0)
    (hs : ∀ (i : Nat) (t : τ) (hi : i < xs.length), I i t → ∃ E2 ixs, TGr X tg ixs (g xs[i]) (E0 i t) E2 ∧ SB X body E2 (O0 i t) ⟨fun E' O' => ∃ t', I (i + 1) t' ∧ Ag (E0 (i + 1) t') E' ∧ O' = O0 (i + 1) t', D.rt, fun E' O' => SB X rest E' O' D, fun E' O' => ∃ t', I (i + 1) t' ∧ Ag (E0 (i + 1) t') E' ∧ O' = O0 (i + 1) t'⟩)
    (hd : ∀ t, I xs.length t → SB X rest (E0 xs.length t) (O0 xs.length t) D)
    (hc : X.calm = true := by rfl) (hp : PassesOwn (model X.prog X.w) X.A X.env X.xe := by exact PassesOwn.never) (hf : ∀ x, foldedSetIterable iter X.env x = pure x := by intro _; rfl) : SB X (.For tg iter body [] pos :: rest) E O D := by
  refine sb_cons (s_for hi (fun i E' O' => ∃ t, I i t ∧ Ag (E0 i t) E' ∧ O' = O0 i t) ⟨t0, h0, hE, hO⟩ ?_ ?_ hc hp hf)
  · rintro i E' O' hi' ⟨t, it, ag, rfl⟩
    obtain ⟨E2, ixs, h1, h2⟩ := hs i t hi' it
    exact ⟨E2, ixs, fun v σ O H R z Q q => h1 v σ O H (R.ag ag) z Q q, h2⟩
  · rintro E' O' ⟨t, it, ag, rfl⟩
    exact sb_ag ag (hd t it)
/-- while, by a state and a measure -/
theorem sb_while {τ : Type} {c : Expr} {body rest : List Stmt} {D : PD} (E0 : τ → En) (O0 : τ → Own) (I : τ → Prop) (μ : τ → Nat) (t0 : τ) (h0 : I t0) (hE : Ag (E0 t0) E) (hO : O = O0 t0)
    (hs : ∀ t, I t → ∃ k, ET X c (E0 t) (O0 t) k ∧ (k = true → SB X body (E0 t) (O0 t) ⟨fun E' O' => ∃ t', μ t' < μ t ∧ I t' ∧ Ag (E0 t') E' ∧ O' = O0 t', D.rt, fun E' O' => SB X rest E' O' D, fun E' O' => ∃ t', μ t' < μ t ∧ I t' ∧ Ag (E0 t') E' ∧ O' = O0 t'⟩) ∧ (k = false → SB X rest (E0 t) (O0 t) D))
    (hp : PassesOwn (model X.prog X.w) X.A X.env X.xe := by exact PassesOwn.never) : SB X (.While c body [] pos :: rest) E O D := by
  refine sb_cons (s_while (fun m E' O' => ∃ t, m = μ t ∧ I t ∧ Ag (E0 t) E' ∧ O' = O0 t) (μ t0) ⟨t0, rfl, h0, hE, hO⟩ ?_ hp)
  rintro m E' O' ⟨t, rfl, it, ag, rfl⟩
  obtain ⟨k, h1, h2, h3⟩ := hs t it
  refine ⟨k, fun σ H R Q q => h1 σ H (R.ag ag) Q q, fun hk σ H R D' rf => ?_, fun hk => sb_ag ag (h3 hk)⟩
  refine h2 hk σ H (R.ag ag) D' ⟨?_, rf.rt, rf.bk, ?_⟩
  · rintro σ' H' E' O' ⟨t', hm, it', ag', rfl⟩ s R'
    exact rf.nx σ' H' E' _ ⟨μ t', hm, t', rfl, it', ag', rfl⟩ s R'
  · rintro σ' H' E' O' ⟨t', hm, it', ag', rfl⟩ s R'
    exact rf.ct σ' H' E' _ ⟨μ t', hm, t', rfl, it', ag', rfl⟩ s R'
/-- an if whose test fails, without else -/
theorem sb_skip {D : PD} {c : Expr} {as rest : List Stmt} (hc : ET X c E O false) (h : SB X rest E O D) : SB X (.If c as [] pos :: rest) E O D := sb_cons (s_if hc (fun z => nomatch z) fun _ => sb_nil h)
/-- both ways of an if meet -/
theorem sb_ifj {D : PD} {c : Expr} {as bs rest : List Stmt} {k : Bool} (E1 : En) (hc : ET X c E O k) (h1 : k = true → SB X as E O ⟨fun E' O' => Ag E1 E' ∧ O' = O, D.rt, D.bk, D.ct⟩) (h2 : k = false → SB X bs E O ⟨fun E' O' => Ag E1 E' ∧ O' = O, D.rt, D.bk, D.ct⟩) (h : SB X rest E1 O D) : SB X (.If c as bs pos :: rest) E O D := by
  refine sb_cons (s_if hc (fun z => ?_) fun z => ?_)
  · refine fun σ H R D' rf => h1 z σ H R D' ⟨?_, rf.rt, rf.bk, rf.ct⟩
    rintro σ' H' E' O' ⟨ag, rfl⟩ s R'
    exact rf.nx σ' H' E' O' (sb_ag ag h) s R'
  · refine fun σ H R D' rf => h2 z σ H R D' ⟨?_, rf.rt, rf.bk, rf.ct⟩
    rintro σ' H' E' O' ⟨ag, rfl⟩ s R'
    exact rf.nx σ' H' E' O' (sb_ag ag h) s R'
/-! ### own things are let go -/
theorem stp_sub {K : PySem.W.Frag} {O O' : Own} {H : Hp} (ok : OwnOk K O H) (hs : O'.Sublist O) : Stp K O H O' H := by
  have hk : ∀ a, a ∈ O'.map (·.1) → a ∈ O.map (·.1) := fun a h => (hs.map _).subset h
  refine ⟨fun _ _ _ e => e, fun a z => .inl (hk a z), fun _ e => e, ok.nd.sublist (hs.map _), fun q hq => ?_⟩
  refine (ok.is q (hs.subset hq)).sub (fun a o' z => ?_) rfl (fun _ z => z)
  obtain ⟨z1, z2⟩ := vis_some z
  exact vis_of (fun z => z1 (hk a z)) z2
theorem EX.go {r : SV} {O' : Own} (h : EX X e E O r) (hs : O'.Sublist O) : EG X e E O (is1 r O') := fun σ H R Q k => h σ H R Q fun v H' r' O1 ⟨e1, e2⟩ s z => by
  subst e1; subst e2
  have s2 := stp_sub s.ok hs
  exact k v H' _ _ ⟨rfl, rfl⟩ (s.trans s2) (s2.sv z)
theorem s_retO {D : PD} {r : SV} {O' : Own} (he : EX X e E O r) (hs : O'.Sublist O) (h : D.rt r O') : SG X (.Return (some e) pos) E O D := s_retG (he.go hs) (fun r' O' ⟨e1, e2⟩ => by subst e1; subst e2; exact h)
theorem sb_go {D : PD} {sts : List Stmt} {O' : Own} (hs : O'.Sublist O) (h : SB X sts E O' D) : SB X sts E O D := fun σ H R D' rf => h σ H (R.step (stp_sub R.own hs)) D' (rf.step (stp_sub R.own hs))
/-! ### ranges of natural numbers -/
theorem it_rangeN {tg : Expr} {n : Nat} (hm : X.mg "range" = none) (h : EX X a E O (vI (n : Int))) (hb : n ≤ 100000) (hg : Gl X "range" := by rfl) (hs : starEach [a] X.env = [(false, eval a X.env)] := by rfl) : IT X tg (.Call (.Name "range" p) [a] [] pos) E O (List.range n) (fun i => vI (i : Int)) :=
  (it_range1 hg hm h (by omega) hs).as (by simp)
theorem it_range2N {tg : Expr} {lo n : Nat} (hm : X.mg "range" = none) (h1 : EX X a E O (vI (lo : Int))) (h2 : EX X b E O (vI (n : Int))) (hb : lo ≤ 100000 ∧ n ≤ 100000) (hg : Gl X "range" := by rfl)
    (hs : starEach [a, b] X.env = [(false, eval a X.env), (false, eval b X.env)] := by rfl) (hs2 : starEach [b] X.env = [(false, eval b X.env)] := by rfl) : IT X tg (.Call (.Name "range" p) [a, b] [] pos) E O (List.range (n - lo)) (fun i => vI ((lo + i : Nat) : Int)) :=
  (it_range2 hg hm h1 h2 (by omega) hs hs2).as (by
    have e : ((n : Int) - (lo : Int)).toNat = n - lo := by omega
    rw [e]
    apply List.map_congr_left
    intro i _
    show vI _ = vI _
    simp)
/-! ### own lists -/
theorem g_newL : EG X (.List [] pos) E O fun r O' => ∃ q, r = .v (.ref q) ∧ O' = (q, .lst []) :: O ∧ q ∉ O.map (·.1) := fun σ H R Q k => we_of (pe_lst pa_nil) (by
  refine ⟨Nat.zero_le _, fun q hq => ?_⟩
  exact k _ _ _ _ ⟨q, rfl, rfl, R.own.fresh hq⟩ (Stp.own R.own hq ⟨[], upd_same, .nil⟩) rfl)
theorem g_newD : EG X (.Dict [] [] pos) E O fun r O' => ∃ q, r = .v (.ref q) ∧ O' = (q, .dic []) :: O ∧ q ∉ O.map (·.1) := fun σ H R Q k => we_of pe_dnewK (by
  intro q hq
  exact k _ _ _ _ ⟨q, rfl, rfl, R.own.fresh hq⟩ (Stp.own R.own hq ⟨[], upd_same, .nil⟩) rfl)
theorem g_append {q : Addr} {ds : List PyData} {d : PyData} (ha : EX X a E O (.v (.ref q))) (hb : EX X b E O (.d d)) (hO : (q, .lst ds) ∈ O) (hl : ds.length < 100000)
    (p1 : PE X (.Call (.Attribute a "append" p) [b] [] pos) (tBM X.K "list" rAppend (WE X a) (WA X [b]))) (hs : starEach [b] X.env = (false, eval b X.env) :: starEach [] X.env := by rfl) :
    EG X (.Call (.Attribute a "append" p) [b] [] pos) E O fun r O' => r = vN ∧ O' = setO O q (.lst (ds ++ [d])) := fun σ H R Q k => we_of p1 (by
  refine ha σ H R _ fun v H1 r1 O1 ⟨e1, e2⟩ s1 z1 => ?_
  subst e1; subst e2
  obtain rfl : v = .ref q := z1
  obtain ⟨vs, h1, h2⟩ := s1.ok.is _ hO
  refine ⟨.inl ⟨rfl, _, SqL.of h1⟩, ?_⟩
  refine (a_cons hb a_nil hs : EA X [b] E _ [.d d]) σ H1 (R.step s1) _ fun us H2 rs O2 ⟨e1, e2⟩ s2 z2 => ?_
  subst e1; subst e2
  cases z2 with
  | cons z2 z3 =>
    cases z3
    obtain ⟨vs2, h3, h4⟩ := s2.ok.is _ hO
    refine ⟨q, vs2, _, rfl, rfl, h3, ?_, ?_⟩
    · rw [dpa_len h4]
      exact Nat.lt_of_lt_of_le hl (by decide)
    · have s3 := Stp.put (o := .lst (ds ++ [d])) (ho := .lst (vs2 ++ [_])) s2.ok (List.mem_map_of_mem hO) (fun x e => by rw [h3] at e; cases e) ⟨_, upd_same, dpa_app h4 (.cons z2 .nil)⟩
      exact k _ _ _ _ ⟨rfl, rfl⟩ ((s1.trans s2).trans s3) .non)
theorem s_append {D : PD} {q : Addr} {ds : List PyData} {d : PyData} (ha : EX X a E O (.v (.ref q))) (hb : EX X b E O (.d d)) (hO : (q, .lst ds) ∈ O) (hl : ds.length < 100000) (h : D.nx E (setO O q (.lst (ds ++ [d]))))
    (hbase : attributeBase a "append" X.env (eval a X.env) = eval a X.env := by rfl)
    (hfew : ((backTo pos (starEach [b] X.env)).all (fun x => !x.1) && (backToKw pos (keywordEach [] X.env)).all (fun x => x.1.isSome)
      && decide (([b] : List Expr).length + ([] : List Keyword).length + (if ([] : List Keyword).isEmpty then 0 else 1) < 30)) = true := by rfl)
    (hline : (p.endLine == pos.line) = true := by rfl) (hplain : (backTo pos (starEach [] X.env)).any (·.1) = false := by rfl) (hs : starEach [b] X.env = (false, eval b X.env) :: starEach [] X.env := by rfl)
    (hw : swapsWith (.Call (.Attribute a "append" p) [b] [] pos) none pos'.line X.env = pure false := by rfl) :
    SG X (.Expr (.Call (.Attribute a "append" p) [b] [] pos) pos') E O D := s_exprG (g_append ha hb hO hl (pe_bm PySem.F.plainAttrs_list PySem.F.slot_list_append PySem.F.type_list_append mt_append WE.pe WA.pa hbase hfew hline hs hplain) hs) (fun r O' ⟨e1, e2⟩ => by subst e2; exact h) hw

/-- an own list is let go: from here on it is data -/
theorem sb_free {D : PD} {sts : List Stmt} {E' : En} {q : Addr} {ds : List PyData} (hO : (q, .lst ds) ∈ O) (hl : E'.length = E.length) (hE : ∀ (j : Nat) (r : SV), E'[j]? = some (some r) → E[j]? = some (some r) ∨ (E[j]? = some (some (.v (.ref q))) ∧ r = vL ds)) (h : SB X sts E' (dropO O q) D) : SB X sts E O D := fun σ H R D' rf => by
  have s := Stp.drop R.own q
  refine h σ H ⟨R.len.trans hl.symm, s.ok, fun j r e => ?_⟩ D' (rf.step s)
  rcases hE j r e with h1 | ⟨h1, h2⟩
  · obtain ⟨v, z1, z2⟩ := R.sl j r h1
    exact ⟨v, z1, s.sv z2⟩
  · subst h2
    obtain ⟨v, z1, z2⟩ := R.sl j _ h1
    obtain rfl : v = .ref q := z2
    exact ⟨_, z1, R.own.dropL hO⟩

/-! ### dicts with int keys -/
def dval (kvs : List (Int × PyData)) (k : Int) : Option PyData := (kvs.find? fun kv => decide (kv.1 = k)).map (·.2)
def dput (kvs : List (Int × PyData)) (k : Int) (v : PyData) : List (Int × PyData) :=
  if (kvs.any fun kv => decide (kv.1 = k)) = true then kvs.map (fun kv => if kv.1 = k then (kv.1, v) else kv) else kvs ++ [(k, v)]
abbrev KvR (W : Hp) : List (Key × V) → List (Int × PyData) → Prop := Paired fun (p : Key × V) (q : Int × PyData) => p.1 = Sum.inl q.1 ∧ Dq W p.2 q.2
theorem kv_val {W : Hp} {k : Int} : ∀ {vs : List (Key × V)} {kvs : List (Int × PyData)}, KvR W vs kvs → match dval kvs k with
    | some d => ∃ v, valV vs (Sum.inl k) = some v ∧ Dq W v d
    | none => valV vs (Sum.inl k) = none
  | _, _, .nil => rfl
  | (x, v) :: vs, (j, d) :: kvs, .cons ⟨e, h⟩ t => by
    obtain rfl : x = Sum.inl j := e
    by_cases hj : j = k
    · subst hj
      have e1 : dval ((j, d) :: kvs) j = some d := by simp [dval]
      rw [e1]
      exact ⟨v, valV_pos rfl, h⟩
    · have e1 : dval ((j, d) :: kvs) k = dval kvs k := by simp [dval, hj]
      have e2 : valV ((Sum.inl j, v) :: vs) (Sum.inl k : Key) = valV vs (Sum.inl k) := valV_neg (fun z => hj (Sum.inl.inj z))
      rw [e1, e2]
      exact kv_val t
theorem kv_len {W : Hp} {vs : List (Key × V)} {kvs : List (Int × PyData)} (h : KvR W vs kvs) : vs.length = kvs.length := Paired.length h
theorem kv_any {W : Hp} {k : Int} : ∀ {vs : List (Key × V)} {kvs : List (Int × PyData)}, KvR W vs kvs → (vs.any fun kv => decide (kv.1 = (Sum.inl k : Key))) = (kvs.any fun kv => decide (kv.1 = k))
  | _, _, .nil => rfl
  | (x, v) :: vs, (j, d) :: kvs, .cons ⟨e, h⟩ t => by
    obtain rfl : x = Sum.inl j := e
    rw [List.any_cons, List.any_cons, kv_any t]
    congr 1
    by_cases hj : j = k
    · subst hj; simp
    · simp [hj]
theorem kv_repl {W : Hp} {k : Int} {v : V} {d : PyData} (h : Dq W v d) : ∀ {vs : List (Key × V)} {kvs : List (Int × PyData)}, KvR W vs kvs → KvR W (vs.map fun kv => if kv.1 = Sum.inl k then (kv.1, v) else kv) (kvs.map fun kv => if kv.1 = k then (kv.1, d) else kv)
  | _, _, .nil => .nil
  | (x, u) :: vs, (j, d') :: kvs, .cons ⟨e, h1⟩ t => by
    obtain rfl : x = Sum.inl j := e
    rw [List.map_cons, List.map_cons]
    refine .cons ?_ (kv_repl h t)
    by_cases hj : j = k
    · subst hj
      simp only [if_true]
      exact ⟨trivial, h⟩
    · simp only [if_neg hj, if_neg (fun z => hj (Sum.inl.inj z) : ¬ (Sum.inl j : Key) = Sum.inl k)]
      exact ⟨trivial, h1⟩
theorem kv_app {W : Hp} : ∀ {vs us : List (Key × V)} {kvs js : List (Int × PyData)}, KvR W vs kvs → KvR W us js → KvR W (vs ++ us) (kvs ++ js)
  | _, _, _, _, .nil, b => b
  | _, _, _, _, .cons h t, b => .cons h (kv_app t b)
theorem kv_put {W : Hp} {k : Int} {v : V} {d : PyData} (h : Dq W v d) {vs : List (Key × V)} {kvs : List (Int × PyData)} (r : KvR W vs kvs) : KvR W (putK vs (Sum.inl k) v) (dput kvs k d) := by
  unfold putK dput
  rw [kv_any r]
  split
  · exact kv_repl h r
  · exact kv_app r (.cons ⟨rfl, h⟩ .nil)
theorem dput_len (kvs : List (Int × PyData)) (k : Int) (v : PyData) : (dput kvs k v).length ≤ kvs.length + 1 := by
  unfold dput
  split
  · rw [List.length_map]; omega
  · rw [List.length_append, List.length_singleton]; omega
theorem x_dget {q : Addr} {kvs : List (Int × PyData)} {k : Int} {d : PyData} (ha : EX X a E O (.v (.ref q))) (hb : EX X b E O (vI k)) (hO : (q, .dic kvs) ∈ O) (h : dval kvs k = some d) (hs : NoSl b := by exact fun _ _ => rfl) (hu : X.A.units + 64 < cLine := by assumption) : EX X (.Subscript a b pos) E O (.d d) := fun σ H R Q kk => we_of (pe_dget (by omega) WE.pe WE.pe hs) (by
  refine ha σ H R _ fun v H1 r1 O1 ⟨e1, e2⟩ s1 z1 => ?_
  subst e1; subst e2
  obtain rfl : v = .ref q := z1
  refine hb σ H1 (R.step s1) _ fun v H2 r2 O2 ⟨e1, e2⟩ s2 z2 => ?_
  subst e1; subst e2
  obtain rfl := int_of z2
  obtain ⟨vs, h1, h2⟩ := s2.ok.is _ hO
  have hv := kv_val (k := k) h2
  rw [h] at hv
  obtain ⟨v, h3, h4⟩ := hv
  refine ⟨q, v, rfl, ?_, kk _ H2 _ _ ⟨rfl, rfl⟩ (s1.trans s2) h4⟩
  rw [← h3]
  exact DGet.k (k := Sum.inl k) h1)
theorem c_din {q : Addr} {kvs : List (Int × PyData)} {k : Int} (ha : EX X a E O (vI k)) (hb : EX X b E O (.v (.ref q))) (hO : (q, .dic kvs) ∈ O) (hu : X.A.units + 64 < cLine := by assumption) : CX1 X .In a b E O (dval kvs k).isSome := fun σ H R Q kk => wc_of (pc_din (by omega) WE.pe WE.pe) (by
  refine ha σ H R _ fun v H1 r1 O1 ⟨e1, e2⟩ s1 z1 => ?_
  subst e1; subst e2
  obtain rfl := int_of z1
  refine hb σ H1 (R.step s1) _ fun v H2 r2 O2 ⟨e1, e2⟩ s2 z2 => ?_
  subst e1; subst e2
  obtain rfl : v = .ref q := z2
  obtain ⟨vs, h1, h2⟩ := s2.ok.is _ hO
  refine ⟨q, valV vs (Sum.inl k), rfl, DGet.k (k := Sum.inl k) h1, kk _ H2 _ _ ⟨rfl, rfl⟩ (s1.trans s2) ?_⟩
  have hv := kv_val (k := k) h2
  cases hd : dval kvs k with
  | none =>
    rw [hd] at hv
    rw [show valV vs (Sum.inl k) = none from hv]
    exact .bl _
  | some d =>
    rw [hd] at hv
    obtain ⟨v, h3, _⟩ := hv
    rw [h3]
    exact .bl _)
theorem x_dget2 {q : Addr} {kvs : List (Int × PyData)} {k : Int} {d : PyData} (ho : EX X o E O (.v (.ref q))) (ha : EX X a E O (vI k)) (hb : EX X b E O (.d d)) (hO : (q, .dic kvs) ∈ O)
    (m : M2 X o "get" p a b pos := by exact ⟨rfl, rfl, rfl, rfl⟩) (hu : X.A.units + 64 < cLine := by assumption) : EX X (.Call (.Attribute o "get" p) [a, b] [] pos) E O (.d ((dval kvs k).getD d)) := fun σ H R Q kk => we_of (pe_dget2 (by omega) WE.pe WE.pe WE.pe m) (by
  refine ho σ H R _ fun v H1 r1 O1 ⟨e1, e2⟩ s1 z1 => ?_
  subst e1; subst e2
  obtain rfl : v = .ref q := z1
  obtain ⟨vs0, h0, _⟩ := s1.ok.is _ hO
  refine ⟨q, rfl, .inl ⟨_, Rd.of h0⟩, ?_⟩
  refine ha σ H1 (R.step s1) _ fun v H2 r2 O2 ⟨e1, e2⟩ s2 z2 => ?_
  subst e1; subst e2
  obtain rfl := int_of z2
  refine hb σ H2 (R.step (s1.trans s2)) _ fun u H3 r3 O3 ⟨e1, e2⟩ s3 z3 => ?_
  subst e1; subst e2
  obtain ⟨vs, h1, h2⟩ := s3.ok.is _ hO
  refine ⟨valV vs (Sum.inl k), DGet.k (k := Sum.inl k) h1, kk _ H3 _ _ ⟨rfl, rfl⟩ ((s1.trans s2).trans s3) ?_⟩
  have hv := kv_val (k := k) h2
  cases hd : dval kvs k with
  | none =>
    rw [hd] at hv
    rw [show valV vs (Sum.inl k) = none from hv]
    exact z3
  | some d =>
    rw [hd] at hv
    obtain ⟨v, h3, h4⟩ := hv
    rw [h3]
    exact h4)
theorem s_dput {D : PD} {q : Addr} {kvs : List (Int × PyData)} {k : Int} {d : PyData} (ho : EX X o E O (.v (.ref q))) (ha : EX X a E O (vI k)) (hb : EX X b E O (.d d)) (hO : (q, .dic kvs) ∈ O) (hl : kvs.length < 100000)
    (h : D.nx E (setO O q (.dic (dput kvs k d)))) (hs : swapsWith b (some (.Subscript o a p)) pos.line X.env = pure false := by rfl) (hu : X.A.units + 64 < cLine := by assumption) : SG X (.Assign [.Subscript o a p] b pos) E O D := fun σ H R D' rf => ws_of (ps_dput (by omega) WE.pe WE.pe WE.pe hs) (by
  refine hb σ H R _ fun u H1 r1 O1 ⟨e1, e2⟩ s1 z1 => ?_
  subst e1; subst e2
  refine ho σ H1 (R.step s1) _ fun v H2 r2 O2 ⟨e1, e2⟩ s2 z2 => ?_
  subst e1; subst e2
  obtain rfl : v = .ref q := z2
  refine ha σ H2 (R.step (s1.trans s2)) _ fun v H3 r3 O3 ⟨e1, e2⟩ s3 z3 => ?_
  subst e1; subst e2
  obtain rfl := int_of z3
  obtain ⟨vs, h1, h2⟩ := s3.ok.is _ hO
  refine ⟨q, _, rfl, DPut.k (k := Sum.inl k) h1 (by rw [kv_len h2]; exact Nat.lt_of_lt_of_le hl (by decide)), ?_⟩
  have z1' := (s2.trans s3).sv z1
  have s4 := Stp.put (o := .dic (dput kvs k d)) (ho := .dK (putK vs (Sum.inl k) u)) s3.ok (List.mem_map_of_mem hO) (fun x e => by rw [h1] at e; cases e) ⟨_, upd_same, kv_put z1' h2⟩
  have s14 := ((s1.trans s2).trans s3).trans s4
  exact rf.nx σ _ E _ h s14 (R.step s14))
def dmerge (kvs more : List (Int × PyData)) : List (Int × PyData) := more.foldl (fun acc kv => dput acc kv.1 kv.2) kvs
theorem kv_merge {W : Hp} : ∀ {ms : List (Key × V)} {more : List (Int × PyData)}, KvR W ms more → ∀ {vs : List (Key × V)} {kvs : List (Int × PyData)}, KvR W vs kvs → KvR W (mergeK vs ms) (dmerge kvs more) := by
  intro ms more h
  induction h with
  | nil => intro vs kvs r; exact r
  | @cons p q ps qs h1 h2 ih =>
    intro vs kvs r
    obtain ⟨x, u⟩ := p
    obtain ⟨j, d⟩ := q
    obtain ⟨e, h1⟩ := h1
    obtain rfl : x = Sum.inl j := e
    exact ih (kv_put h1 r)
/-- dict(a list of pairs): one's own -/
theorem g_dict {kvs : List (Int × PyData)} (hm : X.mg "dict" = none) (ha : EX X a E O (vL (kvs.map fun kv => .tuple [.int kv.1, kv.2]))) (hg : Gl X "dict" := by rfl) (hc : X.calm = true := by rfl) (hs : starEach [a] X.env = (false, eval a X.env) :: starEach [] X.env := by rfl) (hpl : (backTo pos (starEach [] X.env)).any (·.1) = false := by rfl) : EG X (.Call (.Name "dict" p) [a] [] pos) E O fun r O' => ∃ q, r = .v (.ref q) ∧ O' = (q, .dic (dmerge [] kvs)) :: O ∧ q ∉ O.map (·.1) := fun σ H R Q k => we_of (pe_callTy (call_dictP hc) hg hm PyProof.Rows.boot_dict WA.pa (by decide) (by decide) hs hpl) (by
  refine (a_cons ha a_nil hs : EA X [a] E O [_]) σ H R _ fun us H1 rs O1 ⟨e1, e2⟩ s1 z1 => ?_
  subst e1; subst e2
  cases z1 with
  | cons z1 z2 =>
    cases z2
    obtain ⟨l, vs, rfl, h1, h2⟩ := lst_of z1
    have key : ∀ {vs : List V} {kvs : List (Int × PyData)}, DqAll (vis O1 H1) vs (kvs.map fun kv => .tuple [.int kv.1, kv.2]) → ∃ (ps : List Addr) (ks : List (Key × V)), vs = ps.map V.ref ∧ Paired (fun p kv => Rd H1 p (.tup [kV kv.1, kv.2])) ps ks ∧ KvR (vis O1 H1) ks kvs := by
      intro vs kvs
      induction kvs generalizing vs with
      | nil =>
        intro h
        cases h
        exact ⟨[], [], rfl, .nil, .nil⟩
      | cons kv r ih =>
        intro h
        cases h with
        | cons h3 h4 =>
          obtain ⟨ps, ks, e1, e2, e3⟩ := ih h4
          cases h3 with
          | tup h5 h6 =>
            cases h6 with
            | cons h6 h7 =>
              cases h6
              cases h7 with
              | cons h7 h8 =>
                cases h8
                refine ⟨_ :: ps, (Sum.inl kv.1, _) :: ks, by rw [e1]; rfl, .cons (rd_sub (vis_sub _ _) h5) e2, .cons ⟨rfl, h7⟩ e3⟩
    obtain ⟨ps, ks, e1, e2, e3⟩ := key h2
    subst e1
    refine ⟨l, ps, ks, rfl, SqL.of (vis_sub _ _ _ _ h1), Paired.mapP e2 fun _ _ z => .inl z, fun q hq => ?_⟩
    have s2 := Stp.own (o := .dic (dmerge [] kvs)) (ho := .dK (mergeK [] ks)) s1.ok hq ⟨_, upd_same, by
      refine kv_merge (Paired.mapP e3 fun _ _ z => ⟨z.1, dp_sub (fun x u hx => ?_) _ _ z.2⟩) .nil
      obtain ⟨n, hx⟩ := vis_some hx
      refine vis_of (fun hm => ?_) (by rw [upd_ne (ne_of_none hx hq)]; exact hx)
      rcases List.mem_cons.mp hm with hm | hm
      · rw [hm, hq] at hx
        cases hx
      · exact n hm⟩
    exact k _ _ _ _ ⟨q, rfl, rfl, s1.ok.fresh hq⟩ (s1.trans s2) rfl)

/-! ### tuple(list), list(tuple), len -/
theorem x_tuple {ds : List PyData} (hm : X.mg "tuple" = none) (ha : EX X a E O (vL ds)) (hg : Gl X "tuple" := by rfl) (hs : starEach [a] X.env = (false, eval a X.env) :: starEach [] X.env := by rfl) (hpl : (backTo pos (starEach [] X.env)).any (·.1) = false := by rfl) : EX X (.Call (.Name "tuple" p) [a] [] pos) E O (vT ds) := fun σ H R Q k => we_of (pe_callTy call_tuple_of hg hm PyProof.Rows.boot_tuple WA.pa (by decide) (by decide) hs hpl) (by
  refine (a_cons ha a_nil hs : EA X [a] E O [_]) σ H R _ fun us H1 rs O1 ⟨e1, e2⟩ s1 z1 => ?_
  subst e1; subst e2
  cases z1 with
  | cons z1 z2 =>
    cases z2
    obtain ⟨l, vs, rfl, h1, h2⟩ := lst_of z1
    refine ⟨l, vs, rfl, .inl ⟨SqL.of (vis_sub _ _ _ _ h1), fun q hq => ?_⟩⟩
    have s2 := Stp.laid (o := .tup vs) s1.ok hq
    exact k _ _ _ _ ⟨rfl, rfl⟩ (s1.trans s2) (.tup (.inl (vis_laid s1.ok hq)) (dpAll_sub s2.vis _ _ h2)))
theorem x_listT {ds : List PyData} (hm : X.mg "list" = none) (ha : EX X a E O (vT ds)) (hg : Gl X "list" := by rfl) (hs : starEach [a] X.env = (false, eval a X.env) :: starEach [] X.env := by rfl) (hpl : (backTo pos (starEach [] X.env)).any (·.1) = false := by rfl) : EX X (.Call (.Name "list" p) [a] [] pos) E O (vL ds) := fun σ H R Q k => we_of (pe_callTy call_list_of hg hm PyProof.Rows.boot_list WA.pa (by decide) (by decide) hs hpl) (by
  refine (a_cons ha a_nil hs : EA X [a] E O [_]) σ H R _ fun us H1 rs O1 ⟨e1, e2⟩ s1 z1 => ?_
  subst e1; subst e2
  cases z1 with
  | cons z1 z2 =>
    cases z2
    obtain ⟨l, vs, rfl, h1, h2⟩ := tup_of z1
    refine ⟨l, vs, rfl, .inr (.inl (rd_sub (vis_sub _ _) h1)), fun q hq => ?_⟩
    have s2 := Stp.laid (o := .lst vs) s1.ok hq
    exact k _ _ _ _ ⟨rfl, rfl⟩ (s1.trans s2) (.lst (vis_laid s1.ok hq) (dpAll_sub s2.vis _ _ h2)))
theorem x_lenL {ds : List PyData} (hm : X.mg "len" = none) (ha : EX X a E O (vL ds)) (hg : Gl X "len" := by rfl) (hs : starEach [a] X.env = (false, eval a X.env) :: starEach [] X.env := by rfl) (hpl : (backTo pos (starEach [] X.env)).any (·.1) = false := by rfl) : EX X (.Call (.Name "len" p) [a] [] pos) E O (vI ds.length) := fun σ H R Q k => we_of (pe_callB call_len_seq hg hm PySem.boot_len WA.pa (by decide) (by decide) hs hpl) (by
  refine (a_cons ha a_nil hs : EA X [a] E O [_]) σ H R _ fun us H1 rs O1 ⟨e1, e2⟩ s1 z1 => ?_
  subst e1; subst e2
  cases z1 with
  | cons z1 z2 =>
    cases z2
    obtain ⟨l, vs, rfl, h1, h2⟩ := lst_of z1
    refine ⟨l, vs, rfl, .inl (SqL.of (vis_sub _ _ _ _ h1)), k _ _ _ _ ⟨rfl, rfl⟩ s1 ?_⟩
    rw [dpa_len h2]
    exact .int _)
theorem x_lenT {ds : List PyData} (hm : X.mg "len" = none) (ha : EX X a E O (vT ds)) (hg : Gl X "len" := by rfl) (hs : starEach [a] X.env = (false, eval a X.env) :: starEach [] X.env := by rfl) (hpl : (backTo pos (starEach [] X.env)).any (·.1) = false := by rfl) : EX X (.Call (.Name "len" p) [a] [] pos) E O (vI ds.length) := fun σ H R Q k => we_of (pe_callB call_len_seq hg hm PySem.boot_len WA.pa (by decide) (by decide) hs hpl) (by
  refine (a_cons ha a_nil hs : EA X [a] E O [_]) σ H R _ fun us H1 rs O1 ⟨e1, e2⟩ s1 z1 => ?_
  subst e1; subst e2
  cases z1 with
  | cons z1 z2 =>
    cases z2
    obtain ⟨l, vs, rfl, h1, h2⟩ := tup_of z1
    refine ⟨l, vs, rfl, .inr (.inl (rd_sub (vis_sub _ _) h1)), k _ _ _ _ ⟨rfl, rfl⟩ s1 ?_⟩
    rw [dpa_len h2]
    exact .int _)
theorem x_lenS {ns : List Int} (hm : X.mg "len" = none) (ha : EX X a E O (.s ns)) (hg : Gl X "len" := by rfl) (hs : starEach [a] X.env = (false, eval a X.env) :: starEach [] X.env := by rfl) (hpl : (backTo pos (starEach [] X.env)).any (·.1) = false := by rfl) : EX X (.Call (.Name "len" p) [a] [] pos) E O (vI ns.length) := fun σ H R Q k => we_of (pe_callB call_len_seq hg hm PySem.boot_len WA.pa (by decide) (by decide) hs hpl) (by
  refine (a_cons ha a_nil hs : EA X [a] E O [_]) σ H R _ fun us H1 rs O1 ⟨e1, e2⟩ s1 z1 => ?_
  subst e1; subst e2
  cases z1 with
  | cons z1 z2 =>
    cases z2
    obtain ⟨l, rfl, h1⟩ := z1
    refine ⟨l, _, rfl, .inl (sub_L (vis_sub _ _) h1), k _ _ _ _ ⟨rfl, rfl⟩ s1 ?_⟩
    rw [List.length_map]
    exact .int _)
theorem x_ixS {ns : List Int} {i n : Int} (ha : EX X a E O (.s ns)) (hb : EX X b E O (vI i)) (h : atI ns i = some n) (hs : PlainIx b := by exact fun _ _ => rfl) : EX X (.Subscript a b pos) E O (vI n) :=
  x_op (pe_ix ix_list WE.pe WE.pe hs) ha hb fun x y H ok hx hy Q q => by
    obtain ⟨l, rfl, h1⟩ := hx
    refine ⟨l, _, i, .int n, rfl, int_of hy, sub_L (vis_sub _ _) h1, ?_, q _ H _ _ ⟨rfl, rfl⟩ (.refl ok) (.int n)⟩
    unfold atI at h ⊢
    rw [List.length_map]
    cases hi : ixN ns.length i with
    | none => rw [hi] at h; cases h
    | some j =>
      rw [hi] at h
      show (ns.map V.int)[j]? = some (.int n)
      rw [List.getElem?_map, show ns[j]? = some n from h]
      rfl

/-! ### sorted -/
abbrev pD (q : Int × Int) : PyData := .tuple [.int q.1, .int q.2]
def lexle (p q : Int × Int) : Prop := SrtO.lexB q p = false
theorem lexle_anti {p q : Int × Int} (h1 : lexle p q) (h2 : lexle q p) : p = q := by
  have a := SrtO.lexB_no.mp h1
  have b := SrtO.lexB_no.mp h2
  obtain ⟨p1, p2⟩ := p
  obtain ⟨q1, q2⟩ := q
  simp only at a b
  have e1 : p1 = q1 := by omega
  have e2 : p2 = q2 := by omega
  rw [e1, e2]
theorem lexle_of {p q : Int × Int} (h : p.1 < q.1 ∨ (p.1 = q.1 ∧ p.2 ≤ q.2)) : lexle p q := SrtO.lexB_no.mpr (by omega)
def keyV (H : Hp) : V → Int × Int
  | .ref t => match H t with
    | some (.tup [.int i, .int j]) => (i, j)
    | some (.frz _ (.tup [.int i, .int j])) => (i, j)
    | _ => (0, 0)
  | _ => (0, 0)
theorem keyV_rd {H : Hp} {t : Addr} {i j : Int} (h : Rd H t (.tup [.int i, .int j])) : keyV H (.ref t) = (i, j) := by
  unfold keyV
  rcases h with h | ⟨o, h⟩ <;> simp only [h]
theorem pairs_of {W : Hp} : ∀ {vs : List V} {ps : List (Int × Int)}, DqAll W vs (ps.map pD) → (∀ x ∈ vs, ∃ t, x = V.ref t ∧ Rd W t (.tup [.int (keyV W x).1, .int (keyV W x).2])) ∧ vs.map (keyV W) = ps
  | _, [], .nil => ⟨fun _ z => (by cases z), rfl⟩
  | _, p :: ps, .cons h t => by
    obtain ⟨h1, h2⟩ := pairs_of t
    cases h with
    | @tup a xs _ h3 h4 =>
      cases h4 with
      | cons h4 h5 =>
        cases h4
        cases h5 with
        | cons h5 h6 =>
          cases h5
          cases h6
          have e : keyV W (.ref a) = p := keyV_rd h3
          refine ⟨fun x hx => ?_, by rw [List.map_cons, e, h2]⟩
          rcases List.mem_cons.mp hx with rfl | hx
          · refine ⟨a, rfl, ?_⟩
            rw [e]
            exact h3
          · exact h1 x hx
theorem dq_pairs {W : Hp} : ∀ {vs : List V}, (∀ x ∈ vs, ∃ t, x = V.ref t ∧ Rd W t (.tup [.int (keyV W x).1, .int (keyV W x).2])) → DqAll W vs ((vs.map (keyV W)).map pD)
  | [], _ => .nil
  | x :: vs, h => by
    obtain ⟨t, rfl, h1⟩ := h x List.mem_cons_self
    exact .cons (.tup h1 (.cons (.int _) (.cons (.int _) .nil))) (dq_pairs fun y hy => h y (List.mem_cons_of_mem _ hy))
/-- sorted(pairs of ints), the pairs told by k -/
def rSrt (K : PySem.W.Frag) : List V → Hp → VK → Prop := fun vs H Q => ∃ (a : Addr) (xs : List V) (k : V → Int × Int), vs = [V.ref a] ∧ SqL K H a xs ∧
  (∀ x ∈ xs, ∃ t, x = V.ref t ∧ SqT K H t [.int (k x).1, .int (k x).2]) ∧ ∀ ys p, ys.Pairwise (fun x y => lexle (k x) (k y)) → ys.Perm xs → H p = none → Q (.ref p) (upd H p (.lst ys))
theorem cr_srt : CallR X (.builtin "sorted") (rSrt X.K) := by
  intro pins s σ H vs us Q I r ⟨a, xs, k, e0, hs, hx, q⟩
  subst e0
  obtain ⟨its, rv, hl, hz⟩ := I.list hs
  have hlen : its.length ≤ sizeLine := rv.length ▸ hz
  obtain ⟨u, rfl, ru⟩ := vals1 r
  obtain rfl : u = Value.ref a := ru
  obtain ⟨e1, e2⟩ := refs_back rv (fun x m => (hx x m).imp fun t z => z.1)
  have hp : ∀ v ∈ its, Srt.IsPair s.heap v (k (backV v)).1 (k (backV v)).2 := fun v hv => by
    obtain ⟨t, rfl⟩ := e2 v hv
    obtain ⟨t', e, ht⟩ := hx (V.ref t) (e1 ▸ List.mem_map.mpr ⟨_, hv, rfl⟩)
    injection e with e
    subst e
    obtain ⟨its2, r2, ⟨o, ho, hc, n, hd⟩, _⟩ := I.tuple ht
    obtain ⟨u1, u2, rfl, ⟨t1, rfl⟩, ⟨t2, rfl⟩⟩ := vals2 r2
    exact ⟨t, o, t1, t2, n, rfl, ho, hc, hd⟩
  refine SrtO.sorted_pairsO (k := fun v => k (backV v)) hl.isList hlen hp fun h' d out h1 h2 kp hd ⟨n, hn⟩ => ?_
  have h3 : ∀ u ∈ out, ∃ a, u = Value.ref a := fun u hu => e2 u ((h2.perm.mem_iff).mp hu)
  have pm : (out.map backV).Perm xs := by
    rw [e1]
    exact h2.perm.map backV
  have new : ObjOk X.prog X.w (upd H d (.lst (out.map backV))) h' d (.lst (out.map backV)) := ⟨by rw [pm.length_eq]; exact hz, out, n, vals_back h3, hn⟩
  exact ⟨V.ref d, _, I.laid (t' := s.toks) kp hd new, rfl, q _ d (List.pairwise_map.mpr h1) pm (I.hok.fresh hd)⟩
theorem x_sortedP {ps ps' : List (Int × Int)} (hm : X.mg "sorted" = none) (ha : EX X a E O (vL (ps.map pD))) (hp : ps'.Perm ps) (hs' : ps'.Pairwise lexle) (hg : Gl X "sorted" := by rfl) (hs : starEach [a] X.env = (false, eval a X.env) :: starEach [] X.env := by rfl) (hpl : (backTo pos (starEach [] X.env)).any (·.1) = false := by rfl) :
    EX X (.Call (.Name "sorted" p) [a] [] pos) E O (vL (ps'.map pD)) := fun σ H R Q k => we_of (pe_callB cr_srt hg hm PyProof.Rows.boot_sorted WA.pa (by decide) (by decide) hs hpl) (by
  refine (a_cons ha a_nil hs : EA X [a] E O [_]) σ H R _ fun us H1 rs O1 ⟨e1, e2⟩ s1 z1 => ?_
  subst e1; subst e2
  cases z1 with
  | cons z1 z2 =>
    cases z2
    obtain ⟨l, vs, rfl, h1, h2⟩ := lst_of z1
    obtain ⟨h3, h4⟩ := pairs_of h2
    refine ⟨l, vs, keyV (vis O1 H1), rfl, SqL.of (vis_sub _ _ _ _ h1), fun x hx => ?_, fun ys q hy1 hperm hq => ?_⟩
    · obtain ⟨t, e, h5⟩ := h3 x hx
      exact ⟨t, e, .inl (rd_sub (vis_sub _ _) h5)⟩
    · have e : ys.map (keyV (vis O1 H1)) = ps' := by
        refine List.Perm.eq_of_pairwise (le := lexle) (fun a b _ _ => lexle_anti) ?_ hs' ((hperm.map _).trans (by rw [h4]; exact hp.symm))
        rw [List.pairwise_map]
        exact hy1
      have s2 := Stp.laid (o := .lst ys) s1.ok hq
      refine k _ _ _ _ ⟨rfl, rfl⟩ (s1.trans s2) (.lst (vis_laid s1.ok hq) ?_)
      rw [← e]
      exact dpAll_sub s2.vis _ _ (dq_pairs fun x hx => h3 x (hperm.mem_iff.mp hx)))
theorem x_sortedI {ns ns' : List Int} (hm : X.mg "sorted" = none) (ha : EX X a E O (vL (ns.map .int))) (hp : ns'.Perm ns) (hs' : ns'.Pairwise (· ≤ ·)) (hg : Gl X "sorted" := by rfl) (hs : starEach [a] X.env = (false, eval a X.env) :: starEach [] X.env := by rfl) (hpl : (backTo pos (starEach [] X.env)).any (·.1) = false := by rfl) : EX X (.Call (.Name "sorted" p) [a] [] pos) E O (vL (ns'.map .int)) := fun σ H R Q k => we_of (pe_callB cr_sortedI hg hm PyProof.Rows.boot_sorted WA.pa (by decide) (by decide) hs hpl) (by
  refine (a_cons ha a_nil hs : EA X [a] E O [_]) σ H R _ fun us H1 rs O1 ⟨e1, e2⟩ s1 z1 => ?_
  subst e1; subst e2
  cases z1 with
  | cons z1 z2 =>
    cases z2
    obtain ⟨l, vs, rfl, h1, h2⟩ := lst_of z1
    obtain rfl := dpa_ofInts h2
    refine ⟨l, ns, rfl, SqL.of (vis_sub _ _ _ _ h1), fun ys q hy1 hy2 hq => ?_⟩
    have e : ys = ns' := List.Perm.eq_of_pairwise (le := (· ≤ ·)) (fun a b _ _ h1 h2 => Int.le_antisymm h1 h2) hy2 hs' (hy1.trans hp.symm)
    subst e
    have s2 := Stp.laid (o := .lst (ys.map V.int)) s1.ok hq
    exact k _ _ _ _ ⟨rfl, rfl⟩ (s1.trans s2) (.lst (vis_laid s1.ok hq) dpa_ints))
end
end Py
namespace Py
open PySem PySem.Spec PyProof.Rows L2

/-! ### tuples whose object is known (their methods may be called) -/
section
variable {X : Cx} {a b c e o : Expr} {es : List Expr} {E : En} {O : Own} {pos p p' pos' : Pos}
theorem SVr.td {K : PySem.W.Frag} {W : Hp} {v : V} {ds : List PyData} (h : SVr K W v (.t ds)) : SVr K W v (vT ds) := by
  obtain ⟨a, o, vs, rfl, h1, _, h2⟩ := h
  exact .tup (.inr ⟨o, h1⟩) h2
theorem EX.td {ds : List PyData} (h : EX X e E O (.t ds)) : EX X e E O (vT ds) := fun σ H R Q k => h σ H R Q fun v H' r O' ⟨e1, e2⟩ s z => by
  subst e1; subst e2
  exact k v H' _ _ ⟨rfl, rfl⟩ s z.td
/-- a slot's exact tuple taken as plain data -/
theorem x_vart (i : Nat) {x : Str} {ds : List PyData} (h : E[i]? = some (some (.t ds)) := by rfl) (hN : X.N[i]? = some x := by rfl) (hv : Vis X.env.scope x := by first | exact Or.inl rfl | exact Or.inr (Or.inl rfl) | exact Or.inr (Or.inr rfl)) (hd : (x == ("__debug__" : Str)) = false := by decide)
    (hcd : (x == ("__classdict__" : Str)) = false := by decide) : EX X (.Name x pos) E O (vT ds) := (x_var i h hN hv hd hcd).td
def newTupObj (its : List Value) : Obj := { cls := .type "tuple", data := .seq its.toArray }
theorem obj_tupF {P : Program} {w : World} {H : Hp} {h : Heap} {q : Addr} {vs : List V} {its : List Value} (hz : vs.length ≤ sizeLine) (r : Vals vs its) (hg : h.get? q = some (newTupObj its)) : ObjOk P w H h q (.frz (newTupObj its) (.tup vs)) :=
  ⟨hg, hz, its, r, _, hg, rfl, _, rfl⟩
def rTupM (K : PySem.W.Frag) : List V → Hp → VK → Prop := fun xs H Q => ∃ p ys, xs = [.ref p] ∧ SqL K H p ys ∧ ∀ l o, H l = none → o.dict = none → Q (.ref l) (upd H l (.frz o (.tup ys)))
theorem cr_tupM : CallR X (.type "tuple") (rTupM X.K) := by
  intro pins s σ H xs us Q I r ⟨q, ys, e0, hq, k⟩
  subst e0
  obtain ⟨u, rfl, rx⟩ := vals1 r
  obtain rfl : u = Value.ref q := rx
  obtain ⟨its, r', pl, hz⟩ := I.list hq
  have hsz : its.toArray.size ≤ sizeLine := by rw [List.size_toArray, ← r'.length]; exact hz
  refine call_tuple_list pl.isList (fun h' kp => ?_) hsz
  have I1 := I.kept (t' := s.toks) kp
  have I2 := I1.laid (t' := s.toks) (a := h'.objs.size) (h' := h'.push (newTupObj its)) (fun _ _ e => Heap.get?_push_of_some _ e) (Nat.le_refl _) (obj_tupF hz r' (Heap.get?_push_size _ rfl))
  exact ⟨.ref h'.objs.size, _, I2, rfl, k _ _ (I1.hok.fresh (Nat.le_refl _)) rfl⟩
theorem x_tupleM {ds : List PyData} (hm : X.mg "tuple" = none) (ha : EX X a E O (vL ds)) (hg : Gl X "tuple" := by rfl) (hs : starEach [a] X.env = (false, eval a X.env) :: starEach [] X.env := by rfl) (hpl : (backTo pos (starEach [] X.env)).any (·.1) = false := by rfl) :
    EX X (.Call (.Name "tuple" p) [a] [] pos) E O (.t ds) := fun σ H R Q k => we_of (pe_callTy cr_tupM hg hm PyProof.Rows.boot_tuple WA.pa (by decide) (by decide) hs hpl) (by
  refine (a_cons ha a_nil hs : EA X [a] E O [_]) σ H R _ fun us H1 rs O1 ⟨e1, e2⟩ s1 z1 => ?_
  subst e1; subst e2
  cases z1 with
  | cons z1 z2 =>
    cases z2
    obtain ⟨l, vs, rfl, h1, h2⟩ := lst_of z1
    refine ⟨l, vs, rfl, SqL.of (vis_sub _ _ _ _ h1), fun q o hq ho => ?_⟩
    have s2 := Stp.laid (o := .frz o (.tup vs)) s1.ok hq
    exact k _ _ _ _ ⟨rfl, rfl⟩ (s1.trans s2) ⟨q, o, vs, rfl, vis_laid s1.ok hq, ho, dpAll_sub s2.vis _ _ h2⟩)
def tTupM (t : TA) : TE := fun σ H Q => t σ H fun xs H1 => xs.length ≤ sizeLine ∧ ∀ q o, H1 q = none → o.dict = none → Q (.ref q) (upd H1 q (.frz o (.tup xs)))
theorem pe_tupM {k : Nat} {t : TA} (h : PA X es t) : PE X (.Tuple es k pos) (tTupM t) := ⟨fun pins s σ H Q I hq => wpAny_Tuple_spliced (thn (h.run pos pins s σ H _ I hq) fun us s1 ⟨xs, H1, I1, r, z, q⟩ => by
  refine ⟨r.length ▸ z, ?_⟩
  have I2 := I1.laid (t' := s1.toks) (a := s1.heap.objs.size) (h' := s1.heap.push (newTupObj us)) (fun _ _ e => Heap.get?_push_of_some _ e) (Nat.le_refl _) (obj_tupF z r (Heap.get?_push_size _ rfl))
  exact ⟨.ref s1.heap.objs.size, _, I2, rfl, q _ _ (I1.hok.fresh (Nat.le_refl _)) rfl⟩)⟩
theorem y_tupM {ds : List PyData} {k : Nat} (h : EAd X es E O ds) (hl : Nat.ble ds.length 100000 = true := by rfl) : EX X (.Tuple es k pos) E O (.t ds) := fun σ H R Q kk => we_of (pe_tupM WA.pa) (by
  refine h σ H R _ fun vs H1 rs O1 ⟨e1, e2⟩ s1 z1 => ?_
  subst e1; subst e2
  have hd := z1.data
  refine ⟨by rw [dpa_len hd]; exact Nat.le_trans (Nat.le_of_ble_eq_true hl) (by decide), fun q o hq ho => ?_⟩
  have s2 := Stp.laid (o := .frz o (.tup vs)) s1.ok hq
  exact kk _ _ _ _ ⟨rfl, rfl⟩ (s1.trans s2) ⟨q, o, vs, rfl, vis_laid s1.ok hq, ho, dpAll_sub s2.vis _ _ hd⟩)

/-! ### t + u -/
theorem x_catT {ds fs : List PyData} (ha : EX X a E O (vT ds)) (hb : EX X b E O (vT fs)) (hl : ds.length + fs.length ≤ 100000) : EX X (.BinOp a .Add b pos) E O (vT (ds ++ fs)) :=
  x_op (pe_op op_catA WE.pe WE.pe) ha hb fun x y H ok hx hy Q q => by
    obtain ⟨p, vs, rfl, h1, h2⟩ := tup_of hx
    obtain ⟨p', us, rfl, h3, h4⟩ := tup_of hy
    refine ⟨p, p', vs, us, rfl, rfl, .inl (rd_sub (vis_sub _ _) h1), .inl (rd_sub (vis_sub _ _) h3), ?_, fun z => ?_, fun _ z => ?_, fun _ _ q' hq => ?_⟩
    · rw [dpa_len h2, dpa_len h4]
      exact Nat.le_trans hl (by decide)
    · subst z
      cases h2
      exact q _ H _ _ ⟨rfl, rfl⟩ (.refl ok) hy
    · subst z
      cases h4
      rw [List.append_nil] at q
      exact q _ H _ _ ⟨rfl, rfl⟩ (.refl ok) hx
    · have s2 := Stp.laid (o := .tup (vs ++ us)) ok hq
      exact q _ _ _ _ ⟨rfl, rfl⟩ s2 (.tup (.inl (vis_laid ok hq)) (dpa_app (dpAll_sub s2.vis _ _ h2) (dpAll_sub s2.vis _ _ h4)))
def rCatM (K : PySem.W.Frag) : R2 := fun x y H Q => ∃ a b xs ys, x = .ref a ∧ y = .ref b ∧ SqT K H a xs ∧ SqT K H b ys ∧ xs.length + ys.length ≤ sizeLine ∧
  (xs = [] → Q (.ref b) H) ∧ (xs ≠ [] → ys = [] → Q (.ref a) H) ∧ (xs ≠ [] → ys ≠ [] → ∀ q o, H q = none → o.dict = none → Q (.ref q) (upd H q (.frz o (.tup (xs ++ ys)))))
theorem op_catM : OpR X (binaryOp .Add) (rCatM X.K) := by
  intro pins s σ H x y v u Q I rx ry ⟨a, b, xs, ys, e1, e2, ha, hb, hz, q0, q1, q2⟩
  subst e1; subst e2
  obtain rfl : v = Value.ref a := rx
  obtain rfl : u = Value.ref b := ry
  obtain ⟨its, r1, p1, _⟩ := I.tuple ha
  obtain ⟨jts, r2, p2, _⟩ := I.tuple hb
  by_cases hx : xs = []
  · subst hx
    cases r1
    exact cat_tup0 p1 p2 ⟨.ref b, H, I, rfl, q0 rfl⟩
  · have hlen : its.length + jts.length ≤ sizeLine := by rw [← r1.length, ← r2.length]; exact hz
    refine HT.cat_tup p1 p2 (fun z => hx (r1.nil_iff.mp z)) (fun z => ⟨.ref a, H, I, rfl, q1 hx (r2.nil_iff.mp z)⟩) (fun z => ?_) hlen
    have hy : ys ≠ [] := fun w => z (r2.nil_iff.mpr w)
    have I2 := I.laid (t' := s.toks) (a := s.heap.objs.size) (h' := s.heap.push (newTupObj (its ++ jts))) (fun _ _ e => Heap.get?_push_of_some _ e) (Nat.le_refl _) (obj_tupF (by rw [List.length_append]; exact hz) (r1.append r2) (Heap.get?_push_size _ rfl))
    exact ⟨.ref s.heap.objs.size, _, I2, rfl, q2 hx hy _ _ (I.hok.fresh (Nat.le_refl _)) rfl⟩
theorem x_catM {ds fs : List PyData} (ha : EX X a E O (.t ds)) (hb : EX X b E O (.t fs)) (hl : ds.length + fs.length ≤ 100000) : EX X (.BinOp a .Add b pos) E O (.t (ds ++ fs)) :=
  x_op (pe_op op_catM WE.pe WE.pe) ha hb fun x y H ok hx hy Q q => by
    obtain ⟨p, vs, rfl, h1, h2⟩ := tup_of hx.td
    obtain ⟨p', us, rfl, h3, h4⟩ := tup_of hy.td
    refine ⟨p, p', vs, us, rfl, rfl, .inl (rd_sub (vis_sub _ _) h1), .inl (rd_sub (vis_sub _ _) h3), ?_, fun z => ?_, fun _ z => ?_, fun _ _ q' o hq ho => ?_⟩
    · rw [dpa_len h2, dpa_len h4]
      exact Nat.le_trans hl (by decide)
    · subst z
      cases h2
      exact q _ H _ _ ⟨rfl, rfl⟩ (.refl ok) hy
    · subst z
      cases h4
      rw [List.append_nil] at q
      exact q _ H _ _ ⟨rfl, rfl⟩ (.refl ok) hx
    · have s2 := Stp.laid (o := .frz o (.tup (vs ++ us))) ok hq
      exact q _ _ _ _ ⟨rfl, rfl⟩ s2 ⟨q', o, _, rfl, vis_laid ok hq, ho, dpa_app (dpAll_sub s2.vis _ _ h2) (dpAll_sub s2.vis _ _ h4)⟩
/-! ### xs + ys of lists -/
theorem x_catL {ds fs : List PyData} (ha : EX X a E O (vL ds)) (hb : EX X b E O (vL fs)) (hl : ds.length + fs.length ≤ 100000) : EX X (.BinOp a .Add b pos) E O (vL (ds ++ fs)) :=
  x_op (pe_op op_cat WE.pe WE.pe) ha hb fun x y H ok hx hy Q q => by
    obtain ⟨p, vs, rfl, h1, h2⟩ := lst_of hx
    obtain ⟨p', us, rfl, h3, h4⟩ := lst_of hy
    refine ⟨p, p', vs, us, rfl, rfl, vis_sub _ _ _ _ h1, vis_sub _ _ _ _ h3, ?_, fun q' hq => ?_⟩
    · rw [dpa_len h2, dpa_len h4]
      exact Nat.le_trans hl (by decide)
    · have s2 := Stp.laid (o := .lst (vs ++ us)) ok hq
      exact q _ _ _ _ ⟨rfl, rfl⟩ s2 (.lst (vis_laid ok hq) (dpa_app (dpAll_sub s2.vis _ _ h2) (dpAll_sub s2.vis _ _ h4)))

/-! ### methods of a tuple -/
theorem pe_tm {name : Str} {id : String} {rr : V → List V → Hp → VK → Prop} {to : TE} {t : TA} (slot : Slot "tuple" name id) (hty : typeOf (.builtin id) = pure (.type "method_descriptor")) (hm : MtR X id rr) (ho : PE X o to) (ha : PA X (e :: es) t)
    (hbase : attributeBase o name X.env (eval o X.env) = eval o X.env)
    (hfew : ((backTo pos (starEach (e :: es) X.env)).all (fun x => !x.1) && (backToKw pos (keywordEach [] X.env)).all (fun x => x.1.isSome)
      && decide ((e :: es).length + ([] : List Keyword).length + (if ([] : List Keyword).isEmpty then 0 else 1) < 30)) = true)
    (hline : (p.endLine == pos.line) = true) (hs : starEach (e :: es) X.env = (false, eval e X.env) :: starEach es X.env) (hplain : (backTo pos (starEach es X.env)).any (·.1) = false) :
    PE X (.Call (.Attribute o name p) (e :: es) [] pos) (fun σ H Q => to σ H fun x H1 => (∃ (q : Addr) (ob : Obj) (vs : List V), x = .ref q ∧ H1 q = some (.frz ob (.tup vs)) ∧ ob.dict = none) ∧ t σ H1 fun xs H2 => rr x xs H2 Q) :=
  ⟨fun pins s σ H Q I h => wpAny_Call_method_late hbase hfew hline rfl (thn (ho.run pins s σ H _ I h) fun v s1 ⟨x, H1, I1, r1, ⟨q, ob, vs, e0, h1, h2⟩, q1⟩ => by
    subst e0
    obtain rfl : v = Value.ref q := r1
    obtain ⟨g1, _, its, _, hT⟩ := I1.hok q _ h1
    refine ⟨"tuple", id, PySem.F.plainAttrs_tuple, slot, hty, hT.typeIs, fun c hc => ?_, ?_⟩
    · injection hc with hc
      subst hc
      exact ⟨ob, g1, h2⟩
    have hA := ha.run pos pins s1 σ H1 _ I1 q1
    rw [hs] at hA ⊢
    refine Calls.callWith_builtin ?_ (Calls.evalArgs_plain (thn hA fun us s2 ⟨ws, H2, I2, r2, q2⟩ => hm pins s2 σ H2 (.ref q) ws _ us Q I2 rfl r2 q2))
    show (false || (backTo pos (starEach es X.env)).any (·.1)) = false
    rw [hplain]
    rfl)⟩
theorem eq_ints {A : Around} {s : Shared} {k : Int} {t : Tok} : ∀ {its : List Value} {ns : List Int}, IntsAre its ns → ∀ (j : Nat) (h1 : j < its.length) (h2 : j < ns.length), SeqAt.EqAt A s its[j] (.int k t) (decide (ns[j] = k)) := fun {its ns} hi j h1 h2 => by
  obtain ⟨tk, e⟩ := IntsAre.int_at hi j its[j] (List.getElem?_eq_getElem h1)
  rw [e, List.getD_eq_getElem?_getD, List.getElem?_eq_getElem h2]
  intro prog w E Q hq
  refine wpAny_eqBool_int ?_
  rwa [Bool.beq_eq_decide_eq]
def rCntT : V → List V → Hp → VK → Prop := fun x xs H Q => ∃ (q : Addr) (ob : Obj) (ns : List Int) (k : Int), x = .ref q ∧ xs = [.int k] ∧ H q = some (.frz ob (.tup (ns.map V.int))) ∧ Q (.int (ns.count k : Nat)) H
def isK (k : Int) : Value → Bool
  | .int j _ => decide (j = k)
  | _ => false
theorem mt_cntT : MtR X "tuple.count" rCntT := by
  intro pins s σ H x xs v us Q I rx rxs ⟨q, ob, ns, k, e1, e2, hq, z⟩
  subst e1; subst e2
  obtain rfl : v = Value.ref q := rx
  obtain ⟨u, rfl, ru⟩ := rxs.one
  obtain ⟨t, rfl⟩ := ru
  obtain ⟨g1, hz, its, rv, ob', g2, hc, n, hd⟩ := I.hok q _ hq
  obtain ⟨cls, dd, data, sl⟩ := ob'
  simp only at hc hd
  subst hc; subst hd
  have hi : IntsAre its ns := rv.ints
  refine call_meets PySem.F.slot_tuple_count ⟨_, g2, rfl⟩ PySem.F.entry_tuple_count (PySem.F.args_tuple_count_2 _ _) (SeqAt.tuple_countAt q its.toArray n dd sl (.int k t) (isK k)) ⟨g2, fun y hy => ?_, ?_⟩
  · obtain ⟨j, hj, rfl⟩ := List.getElem_of_mem (show y ∈ its by simpa using hy)
    have hj2 : j < ns.length := by rw [← hi.length]; exact hj
    have h := eq_ints (A := X.A.in1) (s := s) (k := k) (t := t) hi j hj hj2
    obtain ⟨tk, e⟩ := IntsAre.int_at hi j its[j] (List.getElem?_eq_getElem hj)
    have e2 : isK k its[j] = decide (ns[j] = k) := by
      rw [e, List.getD_eq_getElem?_getD, List.getElem?_eq_getElem hj2]
      rfl
    rw [e2]
    exact h
  · have ec : its.toArray.toList.countP (isK k) = ns.count k := by
      have key : ∀ {its : List Value} {ns : List Int}, IntsAre its ns → its.countP (isK k) = ns.count k := by
        intro its ns h
        induction h with
        | nil => rfl
        | cons _ _ _ ih =>
          rw [List.countP_cons, List.count_cons, ih]
          show _ + (if decide (_ = k) = true then 1 else 0) = _
          simp
      exact key hi
    rw [ec]
    exact ⟨.int (ns.count k : Nat), H, I.tok _, ⟨s.toks, rfl⟩, z⟩
theorem t_ints {K : PySem.W.Frag} {W : Hp} {v : V} {ns : List Int} (h : SVr K W v (.t (ns.map .int))) : ∃ q ob, v = .ref q ∧ W q = some (.frz ob (.tup (ns.map V.int))) ∧ ob.dict = none := by
  obtain ⟨q, ob, vs, e, h1, h2, h3⟩ := h
  rw [dpa_ofInts h3] at h1
  exact ⟨q, ob, e, h1, h2⟩
theorem x_tmI {name : Str} {id : String} {rr : V → List V → Hp → VK → Prop} {ns : List Int} {k z : Int} (slot : Slot "tuple" name id) (hty : typeOf (.builtin id) = pure (.type "method_descriptor")) (hm : MtR X id rr)
    (hrr : ∀ (q : Addr) (ob : Obj) (H : Hp) (Q : VK), H q = some (.frz ob (.tup (ns.map V.int))) → Q (.int z) H → rr (.ref q) [.int k] H Q)
    (ha : EX X a E O (.t (ns.map .int))) (hb : EX X b E O (vI k)) (hbase : attributeBase a name X.env (eval a X.env) = eval a X.env)
    (hfew : ((backTo pos (starEach [b] X.env)).all (fun x => !x.1) && (backToKw pos (keywordEach [] X.env)).all (fun x => x.1.isSome)
      && decide (([b] : List Expr).length + ([] : List Keyword).length + (if ([] : List Keyword).isEmpty then 0 else 1) < 30)) = true)
    (hline : (p.endLine == pos.line) = true) (hs : starEach [b] X.env = (false, eval b X.env) :: starEach [] X.env) (hplain : (backTo pos (starEach [] X.env)).any (·.1) = false) :
    EX X (.Call (.Attribute a name p) [b] [] pos) E O (vI z) := fun σ H R Q k' => we_of (pe_tm slot hty hm WE.pe WA.pa hbase hfew hline hs hplain) (by
  refine ha σ H R _ fun v H1 r1 O1 ⟨e1, e2⟩ s1 z1 => ?_
  subst e1; subst e2
  obtain ⟨q, ob, rfl, h1, h2⟩ := t_ints z1
  refine ⟨⟨q, ob, _, rfl, vis_sub _ _ _ _ h1, h2⟩, ?_⟩
  refine (a_cons hb a_nil hs : EA X [b] E _ [vI k]) σ H1 (R.step s1) _ fun us H2 rs O2 ⟨e1, e2⟩ s2 z2 => ?_
  subst e1; subst e2
  cases z2 with
  | cons z2 z3 =>
    cases z3
    obtain rfl := int_of z2
    exact hrr q ob H2 Q (vis_sub _ _ _ _ (s2.vis _ _ h1)) (k' _ _ _ _ ⟨rfl, rfl⟩ (s1.trans s2) (.int _)))
theorem x_countT {ns : List Int} {k : Int} (ha : EX X a E O (.t (ns.map .int))) (hb : EX X b E O (vI k)) (hbase : attributeBase a "count" X.env (eval a X.env) = eval a X.env := by rfl)
    (hfew : ((backTo pos (starEach [b] X.env)).all (fun x => !x.1) && (backToKw pos (keywordEach [] X.env)).all (fun x => x.1.isSome)
      && decide (([b] : List Expr).length + ([] : List Keyword).length + (if ([] : List Keyword).isEmpty then 0 else 1) < 30)) = true := by rfl)
    (hline : (p.endLine == pos.line) = true := by rfl) (hs : starEach [b] X.env = (false, eval b X.env) :: starEach [] X.env := by rfl) (hplain : (backTo pos (starEach [] X.env)).any (·.1) = false := by rfl) :
    EX X (.Call (.Attribute a "count" p) [b] [] pos) E O (vI (ns.count k : Nat)) := x_tmI PySem.F.slot_tuple_count PySem.F.type_tuple_count mt_cntT (fun q ob H Q h1 h2 => ⟨q, ob, ns, k, rfl, rfl, h1, h2⟩) ha hb hbase hfew hline hs hplain
def rIdxT : V → List V → Hp → VK → Prop := fun x xs H Q => ∃ (q : Addr) (ob : Obj) (ns : List Int) (k : Int), x = .ref q ∧ xs = [.int k] ∧ H q = some (.frz ob (.tup (ns.map V.int))) ∧ k ∈ ns ∧ Q (.int (ns.idxOf k : Nat)) H
theorem mt_idxT : MtR X "tuple.index" rIdxT := by
  intro pins s σ H x xs v us Q I rx rxs ⟨q, ob, ns, k, e1, e2, hq, hk, z⟩
  subst e1; subst e2
  obtain rfl : v = Value.ref q := rx
  obtain ⟨u, rfl, ru⟩ := rxs.one
  obtain ⟨t, rfl⟩ := ru
  obtain ⟨g1, hz, its, rv, hT⟩ := I.hok q _ hq
  have hi : IntsAre its ns := rv.ints
  exact PySem.SeqAt.call_tuple_index (ks := ns) (k := k) hT ⟨hi.length, fun j h1 h2 => eq_ints hi j h1 h2⟩ hk ⟨.int (ns.idxOf k : Nat), H, I.tok _, ⟨_, rfl⟩, z⟩
theorem x_indexT {ns : List Int} {k : Int} (ha : EX X a E O (.t (ns.map .int))) (hb : EX X b E O (vI k)) (hk : k ∈ ns) (hbase : attributeBase a "index" X.env (eval a X.env) = eval a X.env := by rfl)
    (hfew : ((backTo pos (starEach [b] X.env)).all (fun x => !x.1) && (backToKw pos (keywordEach [] X.env)).all (fun x => x.1.isSome)
      && decide (([b] : List Expr).length + ([] : List Keyword).length + (if ([] : List Keyword).isEmpty then 0 else 1) < 30)) = true := by rfl)
    (hline : (p.endLine == pos.line) = true := by rfl) (hs : starEach [b] X.env = (false, eval b X.env) :: starEach [] X.env := by rfl) (hplain : (backTo pos (starEach [] X.env)).any (·.1) = false := by rfl) :
    EX X (.Call (.Attribute a "index" p) [b] [] pos) E O (vI (ns.idxOf k : Nat)) := x_tmI PySem.F.slot_tuple_index PySem.F.type_tuple_index mt_idxT (fun q ob H Q h1 h2 => ⟨q, ob, ns, k, rfl, rfl, h1, hk, h2⟩) ha hb hbase hfew hline hs hplain
end
end Py
namespace Py
open PySem PySem.Spec PyProof.Rows L2
section
variable {X : Cx} {a b c e o : Expr} {es : List Expr} {E : En} {O : Own} {pos p p' pos' : Pos}
/-! ### min, max, sum -/
theorem lst_ints {K : PySem.W.Frag} {W : Hp} {v : V} {ns : List Int} (h : SVr K W v (vL (ns.map .int))) : ∃ q, v = .ref q ∧ W q = some (.lst (ns.map V.int)) := by
  obtain ⟨q, vs, e, h1, h2⟩ := lst_of h
  rw [dpa_ofInts h2] at h1
  exact ⟨q, e, h1⟩
theorem tup_ints {K : PySem.W.Frag} {W : Hp} {v : V} {ns : List Int} (h : SVr K W v (vT (ns.map .int))) : ∃ q, v = .ref q ∧ Rd W q (.tup (ns.map V.int)) := by
  obtain ⟨q, vs, e, h1, h2⟩ := tup_of h
  rw [dpa_ofInts h2] at h1
  exact ⟨q, e, h1⟩
/-- a call of a built-in by name on one argument, from the values' rule -/
theorem x_cb1 {id : String} {x : Str} {rr : List V → Hp → VK → Prop} {r z : SV} (hcr : CallR X (.builtin id) rr) (hv : bootBuiltins x = some (.builtin id)) (hn : x ≠ "__name__") (hdb : (x == ("__debug__" : Str)) = false) (hm : X.mg x = none) (ha : EX X a E O r)
    (h : ∀ v H, OwnOk X.K O H → SVr X.K (vis O H) v r → ∀ Q, Kont X.K O H (is1 z O) Q → rr [v] H Q) (hg : Gl X x) (hs : starEach [a] X.env = (false, eval a X.env) :: starEach [] X.env) (hpl : (backTo pos (starEach [] X.env)).any (·.1) = false) :
    EX X (.Call (.Name x p) [a] [] pos) E O z := g_cb hcr hg hm hv (a_cons ha a_nil hs) (fun vs H ok hvs Q k => by
    cases hvs with
    | cons z1 z2 =>
      cases z2
      exact h _ H ok z1 Q k) hn hdb hs hpl
theorem x_minL {ns : List Int} {m : Int} (hm : X.mg "min" = none) (ha : EX X a E O (vL (ns.map .int))) (h1 : m ∈ ns) (h2 : ∀ y ∈ ns, m ≤ y) (hg : Gl X "min" := by rfl) (hc : X.calm = true := by rfl) (hs : starEach [a] X.env = (false, eval a X.env) :: starEach [] X.env := by rfl) (hpl : (backTo pos (starEach [] X.env)).any (·.1) = false := by rfl) :
    EX X (.Call (.Name "min" p) [a] [] pos) E O (vI m) := x_cb1 (cr_min hc) PyProof.Rows.boot_min (by decide) (by decide) hm ha (fun v H ok hv Q k => by
    obtain ⟨q, rfl, h3⟩ := lst_ints hv
    refine ⟨q, ns, rfl, SqL.of (vis_sub _ _ _ _ h3), List.length_pos_of_mem h1, fun m' h4 h5 => ?_⟩
    have e : m' = m := Int.le_antisymm (h5 m h1) (h2 m' h4)
    subst e
    exact k _ H _ _ ⟨rfl, rfl⟩ (.refl ok) (.int _)) hg hs hpl
theorem x_maxL {ns : List Int} {m : Int} (hm : X.mg "max" = none) (ha : EX X a E O (vL (ns.map .int))) (h1 : m ∈ ns) (h2 : ∀ y ∈ ns, y ≤ m) (hg : Gl X "max" := by rfl) (hc : X.calm = true := by rfl) (hs : starEach [a] X.env = (false, eval a X.env) :: starEach [] X.env := by rfl) (hpl : (backTo pos (starEach [] X.env)).any (·.1) = false := by rfl) :
    EX X (.Call (.Name "max" p) [a] [] pos) E O (vI m) := x_cb1 (cr_max hc) PyProof.Rows.boot_max (by decide) (by decide) hm ha (fun v H ok hv Q k => by
    obtain ⟨q, rfl, h3⟩ := lst_ints hv
    refine ⟨q, ns, rfl, SqL.of (vis_sub _ _ _ _ h3), List.length_pos_of_mem h1, fun m' h4 h5 => ?_⟩
    have e : m' = m := Int.le_antisymm (h2 m' h4) (h5 m h1)
    subst e
    exact k _ H _ _ ⟨rfl, rfl⟩ (.refl ok) (.int _)) hg hs hpl
theorem x_sumL {ns : List Int} (hm : X.mg "sum" = none) (ha : EX X a E O (vL (ns.map .int))) (hg : Gl X "sum" := by rfl) (hc : X.calm = true := by rfl) (hs : starEach [a] X.env = (false, eval a X.env) :: starEach [] X.env := by rfl) (hpl : (backTo pos (starEach [] X.env)).any (·.1) = false := by rfl) :
    EX X (.Call (.Name "sum" p) [a] [] pos) E O (vI ns.sum) := x_cb1 (cr_sum hc) PyProof.Rows.boot_sum (by decide) (by decide) hm ha (fun v H ok hv Q k => by
    obtain ⟨q, rfl, h3⟩ := lst_ints hv
    exact ⟨q, ns, rfl, SqL.of (vis_sub _ _ _ _ h3), k _ H _ _ ⟨rfl, rfl⟩ (.refl ok) (.int _)⟩) hg hs hpl
def rSumT (K : PySem.W.Frag) : List V → Hp → VK → Prop := fun vs H Q => ∃ (q : Addr) (ns : List Int), vs = [V.ref q] ∧ SqT K H q (ns.map V.int) ∧ Q (.int ns.sum) H
theorem cr_sumT (hc : X.calm = true) : CallR X (.builtin "sum") (rSumT X.K) := by
  intro pins s σ H vs us Q I r ⟨q, ns, e0, hq, z⟩
  subst e0
  rw [Vals.ref1 r]
  obtain ⟨its, rv, hT, _⟩ := I.tuple hq
  have hi : IntsAre its ns := rv.ints
  obtain ⟨xs, hx⟩ := hi.allInts.items
  have hn : numsOf its = ns := hi.numsOf
  rw [show its = its.toArray.toList from rfl, hx, nums_intItems] at hn
  rw [hx] at hT
  refine PySem.W.ktm_sumG (I.ok.hd hc) hT fun h' tk t' hk => ?_
  rw [preSum_eq, List.take_of_length_le (by simp), hn]
  exact ⟨.int ns.sum, H, I.kept hk, ⟨_, rfl⟩, z⟩
theorem x_sumT {ns : List Int} (hm : X.mg "sum" = none) (ha : EX X a E O (vT (ns.map .int))) (hg : Gl X "sum" := by rfl) (hc : X.calm = true := by rfl) (hs : starEach [a] X.env = (false, eval a X.env) :: starEach [] X.env := by rfl) (hpl : (backTo pos (starEach [] X.env)).any (·.1) = false := by rfl) :
    EX X (.Call (.Name "sum" p) [a] [] pos) E O (vI ns.sum) := x_cb1 (cr_sumT hc) PyProof.Rows.boot_sum (by decide) (by decide) hm ha (fun v H ok hv Q k => by
    obtain ⟨q, rfl, h3⟩ := tup_ints hv
    exact ⟨q, ns, rfl, .inl (rd_sub (vis_sub _ _) h3), k _ H _ _ ⟨rfl, rfl⟩ (.refl ok) (.int _)⟩) hg hs hpl
theorem x_min2 {i j : Int} (hm : X.mg "min" = none) (ha : EX X a E O (vI i)) (hb : EX X b E O (vI j)) (hg : Gl X "min" := by rfl) (hc : X.calm = true := by rfl) (hs : starEach [a, b] X.env = (false, eval a X.env) :: starEach [b] X.env := by rfl) (hs2 : starEach [b] X.env = (false, eval b X.env) :: starEach [] X.env := by rfl) (hpl : (backTo pos (starEach [b] X.env)).any (·.1) = false := by rfl) :
    EX X (.Call (.Name "min" p) [a, b] [] pos) E O (vI (if j < i then j else i)) := g_cb (call_min2 hc) hg hm PyProof.Rows.boot_min (a_cons ha (a_cons hb a_nil hs2) hs) (fun vs H ok hvs Q k => by
    cases hvs with
    | cons z1 z2 =>
      cases z2 with
      | cons z2 z3 =>
        cases z3
        obtain rfl := int_of z1
        obtain rfl := int_of z2
        exact ⟨i, j, rfl, k _ H _ _ ⟨rfl, rfl⟩ (.refl ok) (.int _)⟩) (by decide) (by decide) hs hpl
theorem x_max2 {i j : Int} (hm : X.mg "max" = none) (ha : EX X a E O (vI i)) (hb : EX X b E O (vI j)) (hg : Gl X "max" := by rfl) (hc : X.calm = true := by rfl) (hs : starEach [a, b] X.env = (false, eval a X.env) :: starEach [b] X.env := by rfl) (hs2 : starEach [b] X.env = (false, eval b X.env) :: starEach [] X.env := by rfl) (hpl : (backTo pos (starEach [b] X.env)).any (·.1) = false := by rfl) :
    EX X (.Call (.Name "max" p) [a, b] [] pos) E O (vI (if j > i then j else i)) := g_cb (call_max2 hc) hg hm PyProof.Rows.boot_max (a_cons ha (a_cons hb a_nil hs2) hs) (fun vs H ok hvs Q k => by
    cases hvs with
    | cons z1 z2 =>
      cases z2 with
      | cons z2 z3 =>
        cases z3
        obtain rfl := int_of z1
        obtain rfl := int_of z2
        exact ⟨i, j, rfl, k _ H _ _ ⟨rfl, rfl⟩ (.refl ok) (.int _)⟩) (by decide) (by decide) hs hpl
/-! ### x in xs, of ints -/
theorem inV_ints (k : Int) (ns : List Int) : inV (.int k) (ns.map V.int) = decide (k ∈ ns) := by
  unfold inV
  rw [List.any_map]
  induction ns with
  | nil => rfl
  | cons a r ih =>
    rw [List.any_cons, ih]
    show (eqV (V.int a) (V.int k) || _) = _
    have : eqV (V.int a) (V.int k) = decide (k = a) := by
      show (a == k) = _
      rw [Bool.beq_eq_decide_eq]
      by_cases h : a = k
      · simp [h]
      · have : ¬ k = a := fun z => h z.symm
        simp [h, this]
    rw [this]
    simp [List.mem_cons]
theorem flat_ints (ns : List Int) : (ns.map V.int).all flatV = true := by
  rw [List.all_map, List.all_eq_true]
  intro x _
  rfl
theorem c_inL {k : Int} {ns : List Int} (ha : EX X a E O (vI k)) (hb : EX X b E O (vL (ns.map .int))) : CX1 X .In a b E O (decide (k ∈ ns)) :=
  c_op op_in_seq ha hb fun x y H ok hx hy Q q => by
    obtain rfl := int_of hx
    obtain ⟨l, rfl, h1⟩ := lst_ints hy
    refine ⟨l, _, rfl, .inl (SqL.of (vis_sub _ _ _ _ h1)), rfl, flat_ints ns, q _ H _ _ ⟨rfl, rfl⟩ (.refl ok) ?_⟩
    rw [inV_ints]
    exact .bl _
theorem c_inT {k : Int} {ns : List Int} (ha : EX X a E O (vI k)) (hb : EX X b E O (vT (ns.map .int))) : CX1 X .In a b E O (decide (k ∈ ns)) :=
  c_op op_in_seq ha hb fun x y H ok hx hy Q q => by
    obtain rfl := int_of hx
    obtain ⟨l, rfl, h1⟩ := tup_ints hy
    refine ⟨l, _, rfl, .inr (.inl (rd_sub (vis_sub _ _) h1)), rfl, flat_ints ns, q _ H _ _ ⟨rfl, rfl⟩ (.refl ok) ?_⟩
    rw [inV_ints]
    exact .bl _
theorem c_niL {k : Int} {ns : List Int} (ha : EX X a E O (vI k)) (hb : EX X b E O (vL (ns.map .int))) : CX1 X .NotIn a b E O (!decide (k ∈ ns)) :=
  c_op op_notIn_seq ha hb fun x y H ok hx hy Q q => by
    obtain rfl := int_of hx
    obtain ⟨l, rfl, h1⟩ := lst_ints hy
    refine ⟨l, _, rfl, .inl (SqL.of (vis_sub _ _ _ _ h1)), rfl, flat_ints ns, q _ H _ _ ⟨rfl, rfl⟩ (.refl ok) ?_⟩
    rw [inV_ints]
    exact .bl _
theorem c_niT {k : Int} {ns : List Int} (ha : EX X a E O (vI k)) (hb : EX X b E O (vT (ns.map .int))) : CX1 X .NotIn a b E O (!decide (k ∈ ns)) :=
  c_op op_notIn_seq ha hb fun x y H ok hx hy Q q => by
    obtain rfl := int_of hx
    obtain ⟨l, rfl, h1⟩ := tup_ints hy
    refine ⟨l, _, rfl, .inr (.inl (rd_sub (vis_sub _ _) h1)), rfl, flat_ints ns, q _ H _ _ ⟨rfl, rfl⟩ (.refl ok) ?_⟩
    rw [inV_ints]
    exact .bl _
/-! ### enumerate -/
theorem it_enum {elts : List Expr} {kk : Nat} {tpos : Pos} {ds : List PyData} (hm : X.mg "enumerate" = none) (ha : EX X a E O (vL ds)) (hg : Gl X "enumerate" := by rfl) (hs : starEach [a] X.env = [(false, eval a X.env)] := by rfl) :
    IT X (.Tuple elts kk tpos) (.Call (.Name "enumerate" p) [a] [] pos) E O (List.range ds.length) (fun i => vT [.int (i : Nat), ds.getD i .none]) := ⟨_, pi_enum hg hm WA.pa hs, fun σ H R Q q => by
  refine (a_cons ha a_nil hs : EA X [a] E O [_]) σ H R _ fun us H1 rs O1 ⟨e1, e2⟩ s z1 => ?_
  subst e1; subst e2
  cases z1 with
  | cons z1 z2 =>
    cases z2
    obtain ⟨l, vs, rfl, h1, h2⟩ := lst_of z1
    have hl := dpa_len h2
    refine ⟨l, vs, rfl, SqL.of (vis_sub _ _ _ _ h1), q _ H1 s ⟨fun i O' H' s1 hi => ?_, fun i O' H' x H2 s1 hi y => ?_, fun O' H' s1 => ?_⟩⟩
    · have hi' : i < vs.length := by rw [hl]; simpa using hi
      exact ⟨vs, vs[i], SqL.of (vis_sub _ _ _ _ (s1.vis _ _ h1)), List.getElem?_eq_getElem _⟩
    · obtain ⟨T, x', rfl, hT, rfl, y⟩ := y
      have hv := y vs (SqL.of (vis_sub _ _ _ _ (s1.vis _ _ h1)))
      obtain ⟨d, h3, h4⟩ := dpa_atV h2 hv
      have s2 := Stp.laid (o := .tup [.int (i : Nat), x']) s1.ok hT
      refine ⟨s2, ?_⟩
      have e1 : (List.range ds.length)[i] = i := List.getElem_range _
      rw [e1, List.getD_eq_getElem?_getD, h3]
      exact .tup (.inl (vis_laid s1.ok hT)) (.cons (.int _) (.cons (dp_sub s2.vis _ _ (dp_sub s1.vis _ _ h4)) .nil))
    · refine ⟨vs, SqL.of (vis_sub _ _ _ _ (s1.vis _ _ h1)), ?_⟩
      rw [List.length_range, hl]
      exact Nat.le_refl _⟩
/-! ### slices -/
def cutD (ds : List PyData) (lo hi : Option Int) : List PyData := (ds.drop (HT.sIx ds.length 0 lo)).take (HT.sIx ds.length ds.length hi - HT.sIx ds.length 0 lo)
theorem dq_cut {W : Hp} {vs : List V} {ds : List PyData} (h : DqAll W vs ds) (lo hi : Option Int) : DqAll W (cutV vs lo hi) (cutD ds lo hi) := by
  unfold cutV cutD
  rw [dpa_len h]
  exact dpa_take _ (dpa_drop _ h)
inductive EO (X : Cx) (E : En) (O : Own) : Option Expr → Option Int → Prop
  | none : EO X E O none none
  | some {e : Expr} {i : Int} : EX X e E O (vI i) → EO X E O (some e) (some i)
theorem EO.run {e : Option Expr} {i : Option Int} (h : EO X E O e i) : ∃ t, PO X e t ∧ ∀ σ H, Rep X.K E O σ H → ∀ Q : Option Int → Hp → Prop, (∀ H', Stp X.K O H O H' → Q i H') → t σ H Q := by
  cases h with
  | none => exact ⟨_, po_none, fun σ H R Q q => q H (.refl R.own)⟩
  | some h => exact ⟨_, po_some WE.pe, fun σ H R Q q => h σ H R _ fun v H' r O' ⟨e1, e2⟩ s z => by
      subst e1; subst e2
      exact ⟨_, int_of z, q H' s⟩⟩
theorem x_sl {rr : V → Option Int → Option Int → Hp → VK → Prop} {lo hi : Option Expr} {i j : Option Int} {r z : SV} (hr : SlR X rr) (ha : EX X a E O r) (hl : EO X E O lo i) (hh : EO X E O hi j)
    (h : ∀ v H, OwnOk X.K O H → SVr X.K (vis O H) v r → ∀ Q, Kont X.K O H (is1 z O) Q → rr v i j H Q) : EX X (.Subscript a (.Slice lo hi none p) pos) E O z := fun σ H R Q k => by
  obtain ⟨tl, pl, ql⟩ := hl.run
  obtain ⟨th, ph, qh⟩ := hh.run
  refine we_of (pe_slice hr WE.pe pl ph) ?_
  refine ha σ H R _ fun v H1 r1 O1 ⟨e1, e2⟩ s1 z1 => ?_
  subst e1; subst e2
  refine ql σ H1 (R.step s1) _ fun H2 s2 => ?_
  refine qh σ H2 (R.step (s1.trans s2)) _ fun H3 s3 => ?_
  exact h v H3 s3.ok ((s2.trans s3).sv z1) Q fun v' H' r' O' f s z => k v' H' r' O' f (((s1.trans s2).trans s3).trans s) z
theorem x_slL {ds : List PyData} {lo hi : Option Expr} {i j : Option Int} (ha : EX X a E O (vL ds)) (hl : EO X E O lo i) (hh : EO X E O hi j) : EX X (.Subscript a (.Slice lo hi none p) pos) E O (vL (cutD ds i j)) :=
  x_sl sl_list ha hl hh fun v H ok hv Q k => by
    obtain ⟨q, vs, rfl, h1, h2⟩ := lst_of hv
    refine ⟨q, vs, rfl, SqL.of (vis_sub _ _ _ _ h1), fun q' hq => ?_⟩
    have s2 := Stp.laid (o := .lst (cutV vs i j)) ok hq
    exact k _ _ _ _ ⟨rfl, rfl⟩ s2 (.lst (vis_laid ok hq) (dq_cut (dpAll_sub s2.vis _ _ h2) i j))
theorem x_slT {ds : List PyData} {lo hi : Option Expr} {i j : Option Int} (ha : EX X a E O (vT ds)) (hl : EO X E O lo i) (hh : EO X E O hi j) : EX X (.Subscript a (.Slice lo hi none p) pos) E O (vT (cutD ds i j)) :=
  x_sl sl_tupA ha hl hh fun v H ok hv Q k => by
    obtain ⟨q, vs, rfl, h1, h2⟩ := tup_of hv
    refine ⟨q, vs, rfl, .inl (rd_sub (vis_sub _ _) h1), fun ⟨w1, w2⟩ => ?_, fun _ q' hq => ?_⟩
    · refine k _ H _ _ ⟨rfl, rfl⟩ (.refl ok) ?_
      have e : cutD ds i j = ds := by
        unfold cutD
        rw [dpa_len h2] at w1 w2
        rw [w1, w2, Nat.sub_zero, List.drop_zero, List.take_length]
      rw [e]
      exact .tup h1 h2
    · have s2 := Stp.laid (o := .tup (cutV vs i j)) ok hq
      exact k _ _ _ _ ⟨rfl, rfl⟩ s2 (.tup (.inl (vis_laid ok hq)) (dq_cut (dpAll_sub s2.vis _ _ h2) i j))
/-! ### sorted(set(..)) -/
theorem set_few {w : World} {h : Heap} {q : Addr} {ns D : List Int} {n : Nat} (R : SetR w h q (fun j => decide (j ∈ ns)) n) (hD : ∀ k ∈ ns, k ∈ D) : n ≤ D.length := by
  obtain ⟨o, es, ep, t, _, _, _, _, nd, hm, _, _, hn, _, _⟩ := R
  have hsub : ∀ k ∈ es.toList.map keyOf, k ∈ D := fun k hk => hD k (by simpa using (hm k).mpr hk)
  have key : ∀ (l D : List Int), l.Nodup → (∀ k ∈ l, k ∈ D) → l.length ≤ D.length := by
    intro l
    induction l with
    | nil => intro D _ _; exact Nat.zero_le _
    | cons a r ih =>
      intro D hnd hs
      have h1 := List.nodup_cons.mp hnd
      have h2 := ih (D.erase a) h1.2 fun k hk => (List.mem_erase_of_ne (fun e : k = a => h1.1 (by rw [← e]; exact hk))).mpr (hs k (List.mem_cons_of_mem _ hk))
      rw [List.length_erase_of_mem (hs a List.mem_cons_self)] at h2
      have := List.length_pos_of_mem (hs a List.mem_cons_self)
      rw [List.length_cons]
      omega
  have := key _ D nd hsub
  rw [List.length_map, Array.length_toList, hn] at this
  exact this
def rSetT (K : PySem.W.Frag) (w : World) : List V → Hp → VK → Prop := fun vs H Q => ∃ (q : Addr) (ns D : List Int), vs = [V.ref q] ∧ SqT K H q (ns.map V.int) ∧ ns.length ≤ 4000 ∧ (∀ k ∈ ns, k ∈ D) ∧
  ∀ q' n, H q' = none → n ≤ D.length → Q (.ref q') (upd H q' (SetO w q' (fun j => decide (j ∈ ns)) n))
theorem cr_setT (hc : X.calm = true) : CallR X (.type "set") (rSetT X.K X.w) := by
  intro pins s σ H vs us Q I r ⟨q, ns, D, e0, hq, hz, hD, z⟩
  subst e0
  rw [Vals.ref1 r]
  obtain ⟨its, rv, hT, _⟩ := I.tuple hq
  refine call_set_tupI ns (I.ok.hd hc) hT rv.ints (by unfold scanBound; omega) fun h' tk n R _ hk => ?_
  have hf : H s.heap.objs.size = none := I.hok.fresh (Nat.le_refl _)
  exact ⟨.ref s.heap.objs.size, _, I.laid (t' := tk) hk (Nat.le_refl _) (setO_new R), rfl, z _ n hf (set_few R hD)⟩
theorem x_sortedSetT {ns D : List Int} (hm : X.mg "sorted" = none) (hm2 : X.mg "set" = none) (ha : EX X a E O (vT (ns.map .int))) (hz : ns.length ≤ 4000) (hD : ∀ k, k ∈ D ↔ k ∈ ns) (hp : D.Pairwise (· < ·)) (hD2 : D.length < 64) (hg : Gl X "sorted" := by rfl) (hg2 : Gl X "set" := by rfl) (hc : X.calm = true := by rfl) (hs : starEach [a] X.env = (false, eval a X.env) :: starEach [] X.env := by rfl) (hpl2 : (backTo pos' (starEach [] X.env)).any (·.1) = false := by rfl)
    (hs2 : starEach [.Call (.Name "set" p') [a] [] pos'] X.env = (false, eval (.Call (.Name "set" p') [a] [] pos') X.env) :: starEach [] X.env := by rfl) (hpl : (backTo pos (starEach [] X.env)).any (·.1) = false := by rfl) :
    EX X (.Call (.Name "sorted" p) [.Call (.Name "set" p') [a] [] pos'] [] pos) E O (vL (D.map .int)) := fun σ H R Q k =>
  we_of (pe_callB (cr_sortedSet hc) hg hm PyProof.Rows.boot_sorted (pa_cons (pe_callTy (cr_setT hc) hg2 hm2 PyProof.Rows.boot_set WA.pa (by decide) (by decide) hs hpl2) pa_nil hs2) (by decide) (by decide) hs2 hpl) (by
  refine (a_cons ha a_nil hs : EA X [a] E O [_]) σ H R _ fun us H1 rs O1 ⟨e1, e2⟩ s1 z1 => ?_
  subst e1; subst e2
  cases z1 with
  | cons z1 z2 =>
    cases z2
    obtain ⟨l, rfl, h1⟩ := tup_ints z1
    refine ⟨l, ns, D, rfl, .inl (rd_sub (vis_sub _ _) h1), hz, fun x hx => (hD x).mpr hx, fun q' n hq hn => ?_⟩
    have s2 := Stp.laid (o := SetO X.w q' (fun j => decide (j ∈ ns)) n) s1.ok hq
    refine ⟨q', _, n, rfl, upd_same, by omega, fun ns' p2 w1 w2 _ hp2 => ?_⟩
    have e : ns' = D := by
      refine List.Perm.eq_of_pairwise (le := (· < ·)) (fun a b _ _ h1 h2 => absurd (Int.lt_trans h1 h2) (Int.lt_irrefl _)) w1 hp ?_
      refine (List.perm_ext_iff_of_nodup (w1.imp fun h e => ?_) (hp.imp fun h e => ?_)).mpr fun x => ?_
      · exact Int.lt_irrefl _ (e ▸ h)
      · exact Int.lt_irrefl _ (e ▸ h)
      · rw [w2, hD]
        simp
    subst e
    have s3 := Stp.laid (o := .lst (ns'.map V.int)) s2.ok hp2
    exact k _ _ _ _ ⟨rfl, rfl⟩ ((s1.trans s2).trans s3) (.lst (vis_laid s2.ok hp2) dpa_ints))
end
end Py
namespace Py
open PySem PySem.Spec PyProof.Rows L2
/-! natural numbers -/
abbrev nD (n : Nat) : PyData := .int n
abbrev iL (l : List Nat) : List Int := l.map fun (n : Nat) => (n : Int)
theorem nD_iL (l : List Nat) : l.map nD = (iL l).map .int := by rw [List.map_map]; rfl
theorem iL_mem {l : List Nat} {k : Int} : k ∈ iL l ↔ ∃ n ∈ l, (n : Int) = k := List.mem_map
theorem iL_memN {l : List Nat} {k : Nat} : (k : Int) ∈ iL l ↔ k ∈ l := by
  rw [iL_mem]
  constructor
  · rintro ⟨n, h, e⟩
    have : n = k := by omega
    rwa [← this]
  · exact fun h => ⟨k, h, rfl⟩
theorem beq_natC (n m : Nat) : ((n : Int) == (m : Int)) = (n == m) := by
  simp only [Bool.beq_eq_decide_eq]
  congr 1
  simp only [eq_iff_iff]
  omega
theorem iL_count (l : List Nat) (k : Nat) : (iL l).count (k : Int) = l.count k := by
  induction l with
  | nil => rfl
  | cons a r ih =>
    have e : iL (a :: r) = (a : Int) :: iL r := rfl
    rw [e, List.count_cons, List.count_cons, ih]
    congr 1
    by_cases h : a = k
    · simp [h]
    · have : ¬ (a : Int) = (k : Int) := by omega
      simp [h, this]
theorem iL_idxOf (l : List Nat) (k : Nat) : (iL l).idxOf (k : Int) = l.idxOf k := by
  induction l with
  | nil => rfl
  | cons a r ih =>
    have e : iL (a :: r) = (a : Int) :: iL r := rfl
    rw [e, List.idxOf_cons, List.idxOf_cons, ih]
    rw [beq_natC]
theorem iL_sum (l : List Nat) : (iL l).sum = (l.sum : Nat) := by
  induction l with
  | nil => rfl
  | cons a r ih =>
    have e : iL (a :: r) = (a : Int) :: iL r := rfl
    rw [e, List.sum_cons, List.sum_cons, ih]
    omega
section
variable {X : Cx} {a b c e o : Expr} {es : List Expr} {E : En} {O : Own} {pos p p' pos' : Pos}
/-- a def that hands back an exact tuple -/
def pureT (Rl : List PyData → List PyData → Prop) : FSpec := fun rs O Φ => ∃ ds fs, rs = ds.map .d ∧ Rl ds fs ∧ Φ (.t fs) O
theorem y_callT {x : Str} {k : Nat} {Rl : List PyData → List PyData → Prop} {ds fs : List PyData} (F : Fn X.prog X.w X.K X.mg X.base x k (pureT Rl)) (hr : Room k X.A) (ha : EAd X (e :: es) E O ds) (hT : Rl ds fs) (hg : Gl X x := by rfl) (hdb : (x == ("__debug__" : Str)) = false := by decide) (he : starEach (e :: es) X.env = (false, eval e X.env) :: starEach es X.env := by rfl) (hpl : (backTo pos (starEach es X.env)).any (·.1) = false := by rfl) :
    EX X (.Call (.Name x p) (e :: es) [] pos) E O (.t fs) := g_call F hr ha ⟨ds, fs, rfl, hT, rfl, rfl⟩ hg hdb he hpl
theorem x_sortedSetN {ns D : List Nat} (hm : X.mg "sorted" = none) (hm2 : X.mg "set" = none) (ha : EX X a E O (vT (ns.map nD))) (hz : ns.length ≤ 4000) (hD : ∀ k, k ∈ D ↔ k ∈ ns) (hp : D.Pairwise (· < ·)) (hD2 : D.length < 64) (hg : Gl X "sorted" := by rfl) (hg2 : Gl X "set" := by rfl) (hc : X.calm = true := by rfl) (hs : starEach [a] X.env = (false, eval a X.env) :: starEach [] X.env := by rfl) (hpl2 : (backTo pos' (starEach [] X.env)).any (·.1) = false := by rfl)
    (hs2 : starEach [.Call (.Name "set" p') [a] [] pos'] X.env = (false, eval (.Call (.Name "set" p') [a] [] pos') X.env) :: starEach [] X.env := by rfl) (hpl : (backTo pos (starEach [] X.env)).any (·.1) = false := by rfl) :
    EX X (.Call (.Name "sorted" p) [.Call (.Name "set" p') [a] [] pos'] [] pos) E O (vL (D.map nD)) := by
  rw [nD_iL] at ha ⊢
  refine x_sortedSetT hm hm2 ha (by rw [List.length_map]; exact hz) (fun k => ?_) ?_ (by rw [List.length_map]; exact hD2) hg hg2 hc hs hpl2 hs2 hpl
  · rw [iL_mem, iL_mem]
    constructor
    · rintro ⟨n, h, e⟩
      exact ⟨n, (hD n).mp h, e⟩
    · rintro ⟨n, h, e⟩
      exact ⟨n, (hD n).mpr h, e⟩
  · rw [List.pairwise_map]
    exact hp.imp fun {a b} h => by omega
theorem x_countN {ns : List Nat} {k : Nat} (ha : EX X a E O (.t (ns.map nD))) (hb : EX X b E O (vI k)) (hbase : attributeBase a "count" X.env (eval a X.env) = eval a X.env := by rfl)
    (hfew : ((backTo pos (starEach [b] X.env)).all (fun x => !x.1) && (backToKw pos (keywordEach [] X.env)).all (fun x => x.1.isSome)
      && decide (([b] : List Expr).length + ([] : List Keyword).length + (if ([] : List Keyword).isEmpty then 0 else 1) < 30)) = true := by rfl)
    (hline : (p.endLine == pos.line) = true := by rfl) (hs : starEach [b] X.env = (false, eval b X.env) :: starEach [] X.env := by rfl) (hplain : (backTo pos (starEach [] X.env)).any (·.1) = false := by rfl) :
    EX X (.Call (.Attribute a "count" p) [b] [] pos) E O (vI (ns.count k : Nat)) := by
  rw [nD_iL] at ha
  rw [← iL_count]
  exact x_countT ha hb hbase hfew hline hs hplain
theorem x_indexN {ns : List Nat} {k : Nat} (ha : EX X a E O (.t (ns.map nD))) (hb : EX X b E O (vI k)) (hk : k ∈ ns) (hbase : attributeBase a "index" X.env (eval a X.env) = eval a X.env := by rfl)
    (hfew : ((backTo pos (starEach [b] X.env)).all (fun x => !x.1) && (backToKw pos (keywordEach [] X.env)).all (fun x => x.1.isSome)
      && decide (([b] : List Expr).length + ([] : List Keyword).length + (if ([] : List Keyword).isEmpty then 0 else 1) < 30)) = true := by rfl)
    (hline : (p.endLine == pos.line) = true := by rfl) (hs : starEach [b] X.env = (false, eval b X.env) :: starEach [] X.env := by rfl) (hplain : (backTo pos (starEach [] X.env)).any (·.1) = false := by rfl) :
    EX X (.Call (.Attribute a "index" p) [b] [] pos) E O (vI (ns.idxOf k : Nat)) := by
  rw [nD_iL] at ha
  rw [← iL_idxOf]
  exact x_indexT ha hb (iL_memN.mpr hk) hbase hfew hline hs hplain
theorem x_sumTN {ns : List Nat} (hm : X.mg "sum" = none) (ha : EX X a E O (vT (ns.map nD))) (hg : Gl X "sum" := by rfl) (hc : X.calm = true := by rfl) (hs : starEach [a] X.env = (false, eval a X.env) :: starEach [] X.env := by rfl) (hpl : (backTo pos (starEach [] X.env)).any (·.1) = false := by rfl) :
    EX X (.Call (.Name "sum" p) [a] [] pos) E O (vI (ns.sum : Nat)) := by
  rw [nD_iL] at ha
  rw [← iL_sum]
  exact x_sumT hm ha hg hc hs hpl
theorem x_sumLN {ns : List Nat} (hm : X.mg "sum" = none) (ha : EX X a E O (vL (ns.map nD))) (hg : Gl X "sum" := by rfl) (hc : X.calm = true := by rfl) (hs : starEach [a] X.env = (false, eval a X.env) :: starEach [] X.env := by rfl) (hpl : (backTo pos (starEach [] X.env)).any (·.1) = false := by rfl) :
    EX X (.Call (.Name "sum" p) [a] [] pos) E O (vI (ns.sum : Nat)) := by
  rw [nD_iL] at ha
  rw [← iL_sum]
  exact x_sumL hm ha hg hc hs hpl
theorem x_minN {ns : List Nat} {m : Nat} (hm : X.mg "min" = none) (ha : EX X a E O (vL (ns.map nD))) (h1 : m ∈ ns) (h2 : ∀ y ∈ ns, m ≤ y) (hg : Gl X "min" := by rfl) (hc : X.calm = true := by rfl) (hs : starEach [a] X.env = (false, eval a X.env) :: starEach [] X.env := by rfl) (hpl : (backTo pos (starEach [] X.env)).any (·.1) = false := by rfl) :
    EX X (.Call (.Name "min" p) [a] [] pos) E O (vI m) := by
  rw [nD_iL] at ha
  refine x_minL hm ha (iL_memN.mpr h1) (fun y hy => ?_) hg hc hs hpl
  obtain ⟨n, h3, rfl⟩ := iL_mem.mp hy
  have := h2 n h3
  omega
theorem x_maxN {ns : List Nat} {m : Nat} (hm : X.mg "max" = none) (ha : EX X a E O (vL (ns.map nD))) (h1 : m ∈ ns) (h2 : ∀ y ∈ ns, y ≤ m) (hg : Gl X "max" := by rfl) (hc : X.calm = true := by rfl) (hs : starEach [a] X.env = (false, eval a X.env) :: starEach [] X.env := by rfl) (hpl : (backTo pos (starEach [] X.env)).any (·.1) = false := by rfl) :
    EX X (.Call (.Name "max" p) [a] [] pos) E O (vI m) := by
  rw [nD_iL] at ha
  refine x_maxL hm ha (iL_memN.mpr h1) (fun y hy => ?_) hg hc hs hpl
  obtain ⟨n, h3, rfl⟩ := iL_mem.mp hy
  have := h2 n h3
  omega
theorem x_sortedN {ns ns' : List Nat} (hm : X.mg "sorted" = none) (ha : EX X a E O (vL (ns.map nD))) (hp : ns'.Perm ns) (hs' : ns'.Pairwise (· ≤ ·)) (hg : Gl X "sorted" := by rfl) (hs : starEach [a] X.env = (false, eval a X.env) :: starEach [] X.env := by rfl) (hpl : (backTo pos (starEach [] X.env)).any (·.1) = false := by rfl) :
    EX X (.Call (.Name "sorted" p) [a] [] pos) E O (vL (ns'.map nD)) := by
  rw [nD_iL] at ha ⊢
  refine x_sortedI hm ha (hp.map _) ?_ hg hs hpl
  rw [List.pairwise_map]
  exact hs'.imp fun {a b} h => by omega
theorem c_inTN {k : Nat} {ns : List Nat} (ha : EX X a E O (vI k)) (hb : EX X b E O (vT (ns.map nD))) : CX1 X .In a b E O (decide (k ∈ ns)) := by
  rw [nD_iL] at hb
  exact (c_inT ha hb).cast (decide_eq_decide.mpr iL_memN)
theorem c_niTN {k : Nat} {ns : List Nat} (ha : EX X a E O (vI k)) (hb : EX X b E O (vT (ns.map nD))) : CX1 X .NotIn a b E O (!decide (k ∈ ns)) := by
  rw [nD_iL] at hb
  exact (c_niT ha hb).cast (congrArg _ (decide_eq_decide.mpr iL_memN))
theorem c_inLN {k : Nat} {ns : List Nat} (ha : EX X a E O (vI k)) (hb : EX X b E O (vL (ns.map nD))) : CX1 X .In a b E O (decide (k ∈ ns)) := by
  rw [nD_iL] at hb
  exact (c_inL ha hb).cast (decide_eq_decide.mpr iL_memN)
theorem c_niLN {k : Nat} {ns : List Nat} (ha : EX X a E O (vI k)) (hb : EX X b E O (vL (ns.map nD))) : CX1 X .NotIn a b E O (!decide (k ∈ ns)) := by
  rw [nD_iL] at hb
  exact (c_niL ha hb).cast (congrArg _ (decide_eq_decide.mpr iL_memN))
theorem c_eqN {n m : Nat} (ha : EX X a E O (vI (n : Int))) (hb : EX X b E O (vI (m : Int))) (hu : X.A.units + 64 < cLine := by assumption) : CX1 X .Eq a b E O (n == m) := (c_eq ha hb hu).cast (beq_natC n m)
theorem c_neN {n m : Nat} (ha : EX X a E O (vI (n : Int))) (hb : EX X b E O (vI (m : Int))) (hu : X.A.units + 64 < cLine := by assumption) : CX1 X .NotEq a b E O (!(n == m)) := (c_ne ha hb hu).cast (by rw [beq_natC])
theorem c_ltN {n m : Nat} (ha : EX X a E O (vI (n : Int))) (hb : EX X b E O (vI (m : Int))) : CX1 X .Lt a b E O (decide (n < m)) := (c_lt ha hb).cast (decide_eq_decide.mpr (by omega))
theorem c_leN {n m : Nat} (ha : EX X a E O (vI (n : Int))) (hb : EX X b E O (vI (m : Int))) : CX1 X .LtE a b E O (decide (n ≤ m)) := (c_le ha hb).cast (decide_eq_decide.mpr (by omega))
theorem c_gtN {n m : Nat} (ha : EX X a E O (vI (n : Int))) (hb : EX X b E O (vI (m : Int))) : CX1 X .Gt a b E O (decide (m < n)) := (c_gt ha hb).cast (decide_eq_decide.mpr (by omega))
theorem c_geN {n m : Nat} (ha : EX X a E O (vI (n : Int))) (hb : EX X b E O (vI (m : Int))) : CX1 X .GtE a b E O (decide (m ≤ n)) := (c_ge ha hb).cast (decide_eq_decide.mpr (by omega))
theorem x_addN {n m : Nat} (ha : EX X a E O (vI (n : Int))) (hb : EX X b E O (vI (m : Int))) : EX X (.BinOp a .Add b pos) E O (vI ((n + m : Nat) : Int)) := EX.cast (x_add ha hb) (by rw [Int.natCast_add])
theorem x_subN {n m : Nat} (ha : EX X a E O (vI (n : Int))) (hb : EX X b E O (vI (m : Int))) (h : m ≤ n) : EX X (.BinOp a .Sub b pos) E O (vI ((n - m : Nat) : Int)) := EX.cast (x_sub ha hb) (by rw [Int.natCast_sub h])
theorem x_mulN {n m : Nat} (ha : EX X a E O (vI (n : Int))) (hb : EX X b E O (vI (m : Int))) (h : m < 2 ^ 63 ∨ n < 2 ^ 63) : EX X (.BinOp a .Mult b pos) E O (vI ((n * m : Nat) : Int)) := EX.cast (x_mul ha hb (h.elim (fun h => .inr (by omega)) fun h => .inl (by omega))) (by rw [Int.natCast_mul])
theorem x_modN {n m : Nat} (ha : EX X a E O (vI (n : Int))) (hb : EX X b E O (vI (m : Int))) (h : 0 < m) : EX X (.BinOp a .Mod b pos) E O (vI ((n % m : Nat) : Int)) := EX.cast (x_mod ha hb (by omega)) (by rw [Int.natCast_emod])
theorem x_fdivN {n m : Nat} (ha : EX X a E O (vI (n : Int))) (hb : EX X b E O (vI (m : Int))) (h : 0 < m) (h2 : m < 1073741824) : EX X (.BinOp a .FloorDiv b pos) E O (vI ((n / m : Nat) : Int)) := EX.cast (x_fdiv ha hb (by omega)) (by rw [Int.natCast_ediv])
theorem x_intN {n : Nat} {j : Nat} : EX X (.Constant (.int (n : Int)) j pos) E O (vI (n : Int)) := x_int
end
end Py
namespace Py
open PySem PySem.Spec PyProof.Rows L2

section
variable {X : Cx} {a b c e o : Expr} {es : List Expr} {E : En} {O : Own} {pos p p' pos' : Pos}
/-! ### sorted(a dict of one's own) -/
theorem kv_keys {W : Hp} : ∀ {vs : List (Key × V)} {kvs : List (Int × PyData)}, KvR W vs kvs → vs.map (·.1) = (kvs.map (·.1)).map Sum.inl
  | _, _, .nil => rfl
  | _, _, .cons ⟨e, _⟩ t => by
    rw [List.map_cons, List.map_cons, List.map_cons, kv_keys t, e]
theorem x_sortedD {q : Addr} {kvs : List (Int × PyData)} {D : List Int} (hm : X.mg "sorted" = none) (ha : EX X a E O (.v (.ref q))) (hO : (q, .dic kvs) ∈ O) (hl : kvs.length < 64) (hD : D.Pairwise (· ≤ ·)) (hP : D.Perm (kvs.map (·.1))) (hg : Gl X "sorted" := by rfl) (hc : X.calm = true := by rfl) (hs : starEach [a] X.env = (false, eval a X.env) :: starEach [] X.env := by rfl) (hpl : (backTo pos (starEach [] X.env)).any (·.1) = false := by rfl) :
    EX X (.Call (.Name "sorted" p) [a] [] pos) E O (vL (D.map .int)) := x_cb1 (call_sortedDI hc) PyProof.Rows.boot_sorted (by decide) (by decide) hm ha (fun v H ok hv Q k => by
    obtain rfl : v = .ref q := hv
    obtain ⟨vs, h1, h2⟩ := ok.is _ hO
    refine ⟨q, vs, kvs.map (·.1), rfl, Rd.of h1, kv_keys h2, by simpa using hl, fun ys p2 w1 w2 hp => ?_⟩
    have e : ys = D := List.Perm.eq_of_pairwise (le := (· ≤ ·)) (fun a b _ _ h1 h2 => Int.le_antisymm h1 h2) w2 hD (w1.trans hP.symm)
    subst e
    have s3 := Stp.laid (o := .lst (ys.map V.int)) ok hp
    exact k _ _ _ _ ⟨rfl, rfl⟩ s3 (.lst (vis_laid ok hp) dpa_ints)) hg hs hpl
/-! ### zip of two tuples -/
theorem it_zipT {elts : List Expr} {kk : Nat} {tpos : Pos} {ds fs : List PyData} (hm : X.mg "zip" = none) (ha : EX X a E O (vT ds)) (hb : EX X b E O (vT fs)) (hl : ds.length = fs.length) (hg : Gl X "zip" := by rfl) (hs : starEach [a, b] X.env = (false, eval a X.env) :: starEach [b] X.env := by rfl) (hs2 : starEach [b] X.env = (false, eval b X.env) :: starEach [] X.env := by rfl) (hpl : (backTo pos (starEach [b] X.env)).any (·.1) = false := by rfl) :
    IT X (.Tuple elts kk tpos) (.Call (.Name "zip" p) [a, b] [] pos) E O (List.range ds.length) (fun i => vT [ds.getD i .none, fs.getD i .none]) := ⟨_, RZ.pi_zipA hg hm WA.pa hs hpl, fun σ H R Q q => by
  refine (a_cons ha (a_cons hb a_nil hs2) hs : EA X [a, b] E O [_, _]) σ H R _ fun us H1 rs O1 ⟨e1, e2⟩ s z1 => ?_
  subst e1; subst e2
  cases z1 with
  | cons z1 z2 =>
    cases z2 with
    | cons z2 z3 =>
      cases z3
      obtain ⟨l, vs, rfl, h1, h2⟩ := tup_of z1
      obtain ⟨l2, us, rfl, h1', h2'⟩ := tup_of z2
      have hv := dpa_len h2
      have hv' := dpa_len h2'
      refine ⟨l, l2, vs, us, rfl, .inr ⟨.inl (rd_sub (vis_sub _ _) h1), .inl (rd_sub (vis_sub _ _) h1'), q _ H1 s ⟨fun i O' H' s1 hi => ?_, fun i O' H' x H2 s1 hi y => ?_, fun O' H' s1 => ?_⟩⟩⟩
      · have hi' : i < ds.length := by simpa using hi
        exact ⟨vs, us, vs[i]'(by omega), us[i]'(by omega), .inl (rd_sub (vis_sub _ _) (rd_sub s1.vis h1)), .inl (rd_sub (vis_sub _ _) (rd_sub s1.vis h1')), List.getElem?_eq_getElem _, List.getElem?_eq_getElem _⟩
      · obtain ⟨T, x', y', rfl, hT, rfl, y1, y2⟩ := y
        have g1 := y1 vs (.inl (rd_sub (vis_sub _ _) (rd_sub s1.vis h1)))
        have g2 := y2 us (.inl (rd_sub (vis_sub _ _) (rd_sub s1.vis h1')))
        obtain ⟨d, h3, h4⟩ := dpa_atV h2 g1
        obtain ⟨d', h3', h4'⟩ := dpa_atV h2' g2
        have s2 := Stp.laid (o := .tup [x', y']) s1.ok hT
        refine ⟨s2, ?_⟩
        have e1 : (List.range ds.length)[i] = i := List.getElem_range _
        rw [e1, List.getD_eq_getElem?_getD, h3, List.getD_eq_getElem?_getD, h3']
        exact .tup (.inl (vis_laid s1.ok hT)) (.cons (dp_sub s2.vis _ _ (dp_sub s1.vis _ _ h4)) (.cons (dp_sub s2.vis _ _ (dp_sub s1.vis _ _ h4')) .nil))
      · refine ⟨vs, us, .inl (rd_sub (vis_sub _ _) (rd_sub s1.vis h1)), .inl (rd_sub (vis_sub _ _) (rd_sub s1.vis h1')), .inl ?_⟩
        rw [List.length_range]
        omega⟩
/-! ### xs.extend(list) -/
theorem g_extend {q : Addr} {ds fs : List PyData} (ha : EX X a E O (.v (.ref q))) (hb : EX X b E O (vL fs)) (hO : (q, .lst ds) ∈ O) (hl : ds.length + fs.length ≤ 100000)
    (p1 : PE X (.Call (.Attribute a "extend" p) [b] [] pos) (tBM X.K "list" rExtend (WE X a) (WA X [b]))) (hs : starEach [b] X.env = (false, eval b X.env) :: starEach [] X.env := by rfl) :
    EG X (.Call (.Attribute a "extend" p) [b] [] pos) E O fun r O' => r = vN ∧ O' = setO O q (.lst (ds ++ fs)) := fun σ H R Q k => we_of p1 (by
  refine ha σ H R _ fun v H1 r1 O1 ⟨e1, e2⟩ s1 z1 => ?_
  subst e1; subst e2
  obtain rfl : v = .ref q := z1
  obtain ⟨vs, h1, h2⟩ := s1.ok.is _ hO
  refine ⟨.inl ⟨rfl, _, SqL.of h1⟩, ?_⟩
  refine (a_cons hb a_nil hs : EA X [b] E _ [vL fs]) σ H1 (R.step s1) _ fun us H2 rs O2 ⟨e1, e2⟩ s2 z2 => ?_
  subst e1; subst e2
  cases z2 with
  | cons z2 z3 =>
    cases z3
    obtain ⟨vs2, h3, h4⟩ := s2.ok.is _ hO
    obtain ⟨l, zs, rfl, h5, h6⟩ := lst_of z2
    refine ⟨q, l, vs2, zs, rfl, rfl, h3, vis_sub _ _ _ _ h5, ?_, ?_⟩
    · rw [dpa_len h4, dpa_len h6]
      exact Nat.le_trans hl (by decide)
    · have s3 := Stp.put (o := .lst (ds ++ fs)) (ho := .lst (vs2 ++ zs)) s2.ok (List.mem_map_of_mem hO) (fun x e => by rw [h3] at e; cases e) ⟨_, upd_same, dpa_app h4 h6⟩
      exact k _ _ _ _ ⟨rfl, rfl⟩ ((s1.trans s2).trans s3) .non)
theorem s_extend {D : PD} {q : Addr} {ds fs : List PyData} (ha : EX X a E O (.v (.ref q))) (hb : EX X b E O (vL fs)) (hO : (q, .lst ds) ∈ O) (hl : ds.length + fs.length ≤ 100000) (h : D.nx E (setO O q (.lst (ds ++ fs))))
    (hbase : attributeBase a "extend" X.env (eval a X.env) = eval a X.env := by rfl)
    (hfew : ((backTo pos (starEach [b] X.env)).all (fun x => !x.1) && (backToKw pos (keywordEach [] X.env)).all (fun x => x.1.isSome)
      && decide (([b] : List Expr).length + ([] : List Keyword).length + (if ([] : List Keyword).isEmpty then 0 else 1) < 30)) = true := by rfl)
    (hline : (p.endLine == pos.line) = true := by rfl) (hplain : (backTo pos (starEach [] X.env)).any (·.1) = false := by rfl) (hs : starEach [b] X.env = (false, eval b X.env) :: starEach [] X.env := by rfl)
    (hw : swapsWith (.Call (.Attribute a "extend" p) [b] [] pos) none pos'.line X.env = pure false := by rfl) :
    SG X (.Expr (.Call (.Attribute a "extend" p) [b] [] pos) pos') E O D := s_exprG (g_extend ha hb hO hl (pe_bm PySem.F.plainAttrs_list PySem.F.slot_list_extend PySem.F.type_list_extend mt_extend WE.pe WA.pa hbase hfew hline hs hplain) hs) (fun r O' ⟨e1, e2⟩ => by subst e2; exact h) hw
/-! ### an if whose ways meet, with own things changed -/
theorem sb_ifO {D : PD} {as bs rest : List Stmt} {k : Bool} (E1 : En) (O1 : Own) (hc : ET X c E O k) (h1 : k = true → SB X as E O ⟨fun E' O' => Ag E1 E' ∧ O' = O1, D.rt, D.bk, D.ct⟩) (h2 : k = false → SB X bs E O ⟨fun E' O' => Ag E1 E' ∧ O' = O1, D.rt, D.bk, D.ct⟩) (h : SB X rest E1 O1 D) : SB X (.If c as bs pos :: rest) E O D := by
  refine sb_cons (s_if hc (fun z => ?_) fun z => ?_)
  · refine fun σ H R D' rf => h1 z σ H R D' ⟨?_, rf.rt, rf.bk, rf.ct⟩
    rintro σ' H' E' O' ⟨ag, rfl⟩ s R'
    exact rf.nx σ' H' E' _ (sb_ag ag h) s R'
  · refine fun σ H R D' rf => h2 z σ H R D' ⟨?_, rf.rt, rf.bk, rf.ct⟩
    rintro σ' H' E' O' ⟨ag, rfl⟩ s R'
    exact rf.nx σ' H' E' _ (sb_ag ag h) s R'
/-! ### a slot's own list is let go -/
theorem dropO_head {q : Addr} {o : OO} (h : q ∉ O.map (·.1)) : dropO ((q, o) :: O) q = O := by
  unfold dropO
  rw [List.filter_cons_of_neg (by simp)]
  refine List.filter_eq_self.mpr fun r hr => ?_
  have : r.1 ≠ q := fun z => h (z ▸ List.mem_map_of_mem hr)
  simpa using this
theorem sb_let (i : Nat) {D : PD} {sts : List Stmt} {q : Addr} {ds : List PyData} {O' : Own} (hO : O = (q, .lst ds) :: O') (hq : q ∉ O'.map (·.1)) (h : SB X sts (E.set i (some (vL ds))) O' D) (hi : E[i]? = some (some (.v (.ref q))) := by rfl) : SB X sts E O D := by
  subst hO
  refine sb_free (q := q) (ds := ds) (E' := E.set i (some (vL ds))) List.mem_cons_self List.length_set (fun j r e => ?_) (by rw [dropO_head hq]; exact h)
  by_cases hj : i = j
  · subst hj
    obtain ⟨hlt, _⟩ := List.getElem?_eq_some_iff.mp hi
    rw [List.getElem?_set_self hlt] at e
    cases e
    exact .inr ⟨hi, rfl⟩
  · rw [List.getElem?_set_ne hj] at e
    exact .inl e
/-! ### min, max of two natural numbers -/
theorem x_minN2 {n m : Nat} (hm : X.mg "min" = none) (ha : EX X a E O (vI (n : Int))) (hb : EX X b E O (vI (m : Int))) (hg : Gl X "min" := by rfl) (hc : X.calm = true := by rfl) (hs : starEach [a, b] X.env = (false, eval a X.env) :: starEach [b] X.env := by rfl) (hs2 : starEach [b] X.env = (false, eval b X.env) :: starEach [] X.env := by rfl) (hpl : (backTo pos (starEach [b] X.env)).any (·.1) = false := by rfl) :
    EX X (.Call (.Name "min" p) [a, b] [] pos) E O (vI (min n m : Nat)) := EX.cast (x_min2 hm ha hb hg hc hs hs2 hpl) (by
    have e : (if (m : Int) < (n : Int) then (m : Int) else (n : Int)) = ((min n m : Nat) : Int) := by split <;> omega
    rw [e])
theorem x_maxN2 {n m : Nat} (hm : X.mg "max" = none) (ha : EX X a E O (vI (n : Int))) (hb : EX X b E O (vI (m : Int))) (hg : Gl X "max" := by rfl) (hc : X.calm = true := by rfl) (hs : starEach [a, b] X.env = (false, eval a X.env) :: starEach [b] X.env := by rfl) (hs2 : starEach [b] X.env = (false, eval b X.env) :: starEach [] X.env := by rfl) (hpl : (backTo pos (starEach [b] X.env)).any (·.1) = false := by rfl) :
    EX X (.Call (.Name "max" p) [a, b] [] pos) E O (vI (max n m : Nat)) := EX.cast (x_max2 hm ha hb hg hc hs hs2 hpl) (by
    have e : (if (m : Int) > (n : Int) then (m : Int) else (n : Int)) = ((max n m : Nat) : Int) := by split <;> omega
    rw [e])
/-! ### [x], one's own -/
theorem g_newL1 {d : PyData} (ha : EX X a E O (.d d)) (hs : starEach [a] X.env = (false, eval a X.env) :: starEach [] X.env := by rfl) : EG X (.List [a] pos) E O fun r O' => ∃ q, r = .v (.ref q) ∧ O' = (q, .lst [d]) :: O ∧ q ∉ O.map (·.1) := fun σ H R Q k => we_of (pe_lst WA.pa) (by
  refine (a_cons ha a_nil hs : EA X [a] E O [.d d]) σ H R _ fun us H1 rs O1 ⟨e1, e2⟩ s1 z1 => ?_
  subst e1; subst e2
  cases z1 with
  | cons z1 z2 =>
    cases z2
    refine ⟨show 1 ≤ sizeLine by decide, fun q hq => ?_⟩
    have s2 := Stp.own (o := .lst [d]) (ho := .lst [_]) s1.ok hq ⟨_, upd_same, .cons (dp_sub (fun x u hx => ?_) _ _ z1) .nil⟩
    · exact k _ _ _ _ ⟨q, rfl, rfl, s1.ok.fresh hq⟩ (s1.trans s2) rfl
    · obtain ⟨n, hx⟩ := vis_some hx
      refine vis_of (fun hm => ?_) (by rw [upd_ne (ne_of_none hx hq)]; exact hx)
      rcases List.mem_cons.mp hm with hm | hm
      · rw [hm, hq] at hx
        cases hx
      · exact n hm)
end
end Py
namespace Py
open PySem PySem.Spec PyProof.Rows L2

/-! ### min(a list of pairs of ints) -/
theorem lexLt_pair (a b c d : Int) : HT.lexLt [a, b] [c, d] = SrtO.lexB (a, b) (c, d) := by
  unfold SrtO.lexB
  rw [HT.lexLt_cons, HT.lexLt_cons]
  show (if a = c then (if b = d then HT.lexLt [] [] else decide (b < d)) else decide (a < c)) = if a = c then decide (b < d) else decide (a < c)
  by_cases h : a = c
  · rw [if_pos h, if_pos h]
    by_cases h2 : b = d
    · rw [if_pos h2, h2]
      simp [HT.lexLt_nil_nil]
    · rw [if_neg h2]
  · rw [if_neg h, if_neg h]
theorem best_le (p : Nat → Int × Int) : ∀ k, argBest (fun i j => SrtO.lexB (p i) (p j)) k ≤ k ∧ ∀ j, j ≤ k → SrtO.lexB (p j) (p (argBest (fun i j => SrtO.lexB (p i) (p j)) k)) = false
  | 0 => ⟨Nat.le_refl _, fun j hj => by
    obtain rfl : j = 0 := by omega
    show SrtO.lexB (p 0) (p 0) = false
    exact SrtO.lexB_no.mpr (by omega)⟩
  | k + 1 => by
    obtain ⟨h1, h2⟩ := best_le p k
    show (if SrtO.lexB (p (k + 1)) (p (argBest (fun i j => SrtO.lexB (p i) (p j)) k)) then k + 1 else argBest (fun i j => SrtO.lexB (p i) (p j)) k) ≤ k + 1 ∧ _
    generalize hb : argBest (fun i j => SrtO.lexB (p i) (p j)) k = b at h1 h2
    have e : argBest (fun i j => SrtO.lexB (p i) (p j)) (k + 1) = if SrtO.lexB (p (k + 1)) (p b) then k + 1 else b := by
      show (if SrtO.lexB (p (k + 1)) (p (argBest (fun i j => SrtO.lexB (p i) (p j)) k)) then k + 1 else argBest (fun i j => SrtO.lexB (p i) (p j)) k) = _
      rw [hb]
    by_cases hl : SrtO.lexB (p (k + 1)) (p b) = true
    · rw [if_pos hl] at e ⊢
      refine ⟨Nat.le_refl _, fun j hj => ?_⟩
      rw [e]
      have hl' := SrtO.lexB_iff.mp hl
      by_cases hj' : j = k + 1
      · subst hj'
        exact SrtO.lexB_no.mpr (by omega)
      · have h3 := SrtO.lexB_no.mp (h2 j (by omega))
        exact SrtO.lexB_no.mpr (by omega)
    · rw [if_neg hl] at e ⊢
      refine ⟨by omega, fun j hj => ?_⟩
      rw [e]
      by_cases hj' : j = k + 1
      · subst hj'
        exact Bool.eq_false_iff.mpr hl
      · exact h2 j (by omega)
section
variable {X : Cx} {a b c e o : Expr} {es : List Expr} {E : En} {O : Own} {pos p p' pos' : Pos}
def rMinP (K : PySem.W.Frag) : List V → Hp → VK → Prop := fun vs H Q => ∃ (q : Addr) (xs : List V) (k : V → Int × Int), vs = [V.ref q] ∧ SqL K H q xs ∧ 0 < xs.length ∧
  (∀ x ∈ xs, ∃ t, x = V.ref t ∧ SqT K H t [.int (k x).1, .int (k x).2]) ∧ ∀ x ∈ xs, (∀ y ∈ xs, lexle (k x) (k y)) → Q x H
theorem cr_minP (hc : X.calm = true) (hu : X.A.units + 64 < cLine) : CallR X (.builtin "min") (rMinP X.K) := by
  intro pins s σ H vs us Q I r ⟨q, xs, k, e0, hq, hne, hx, z⟩
  subst e0
  rw [Vals.ref1 r]
  obtain ⟨its, rv, pl, hz⟩ := I.list hq
  have hlen := rv.length
  have hs : its.toArray.size = xs.length := by rw [List.size_toArray, hlen]
  refine call_min_walkH (PySem.W.iter_listW (A := X.A.in1) (I.ok.hd hc) pl.isList fun s₂ e W st hfp hw hk => ?_)
  refine ⟨_, _, _, _, _, _, _, s.heap, fun i j => SrtO.lexB (k (xs.getD i .non)) (k (xs.getD j .non)), rfl, W, st, hfp, by rw [hs]; exact hne, hw, hk, ?_, fun v s' hP m => ?_⟩
  · intro i j vi vj s' Q' E' hk' hi hj hq'
    have one : ∀ (i : Nat) (vi : Value), its.toArray[i]? = some vi → ∃ t its2, vi = Value.ref t ∧ IsTup s'.heap t its2 ∧ IntsAre its2.toList [(k (xs.getD i .non)).1, (k (xs.getD i .non)).2] := by
      intro i vi hi
      have hi' : its[i]? = some vi := by simpa using hi
      have hlt : i < xs.length := by
        obtain ⟨h, _⟩ := List.getElem?_eq_some_iff.mp hi'
        omega
      obtain ⟨u, h1, h2⟩ := rv.get (List.getElem?_eq_getElem hlt)
      rw [hi'] at h1
      cases h1
      have eg : xs.getD i .non = xs[i] := by rw [List.getD_eq_getElem?_getD, List.getElem?_eq_getElem hlt]; rfl
      obtain ⟨t, e1, ht⟩ := hx xs[i] (List.getElem_mem _)
      rw [eg]
      rw [e1] at h2
      cases h2
      obtain ⟨its2, r2, ⟨o, ho, hcl, n, hd⟩, _⟩ := I.tuple ht
      refine ⟨t, its2.toArray, rfl, ⟨o, hk' _ _ ho, hcl, n, hd⟩, ?_⟩
      have := intsAre_of (ns := [(k xs[i]).1, (k xs[i]).2]) r2
      simpa using this
    obtain ⟨t1, i1, rfl, p1, q1⟩ := one i vi hi
    obtain ⟨t2, i2, rfl, p2, q2⟩ := one j vj hj
    refine HT.lt_tupInts p1 p2 q1 q2 (by show X.A.units + 1 < cLine; omega) ?_
    rw [lexLt_pair]
    exact hq'
  · obtain ⟨h', tk, rfl, hk'⟩ := PySem.W.moved_old e rfl m
    rw [hs] at hP
    obtain ⟨g1, g2⟩ := best_le (fun i => k (xs.getD i .non)) (xs.length - 1)
    generalize argBest (fun i j => SrtO.lexB (k (xs.getD i .non)) (k (xs.getD j .non))) (xs.length - 1) = bi at hP g1 g2
    have hlt : bi < xs.length := by omega
    obtain ⟨u, h1, h2⟩ := rv.get (List.getElem?_eq_getElem hlt)
    have hP' : its[bi]? = some v := by simpa using hP
    rw [h1] at hP'
    cases hP'
    have eg : ∀ j (hj : j < xs.length), xs.getD j .non = xs[j] := fun j hj => by rw [List.getD_eq_getElem?_getD, List.getElem?_eq_getElem hj]; rfl
    refine ⟨xs[bi], H, I.kept (t' := tk) hk', h2, z _ (List.getElem_mem _) fun y hy => ?_⟩
    obtain ⟨j, hj, rfl⟩ := List.getElem_of_mem hy
    have := g2 j (by omega)
    rw [eg j hj, eg bi hlt] at this
    exact this
theorem x_minP {ps : List (Int × Int)} {m : Int × Int} (hm : X.mg "min" = none) (ha : EX X a E O (vL (ps.map pD))) (h1 : m ∈ ps) (h2 : ∀ y ∈ ps, lexle m y) (hg : Gl X "min" := by rfl) (hc : X.calm = true := by rfl) (hs : starEach [a] X.env = (false, eval a X.env) :: starEach [] X.env := by rfl) (hpl : (backTo pos (starEach [] X.env)).any (·.1) = false := by rfl) (hu : X.A.units + 64 < cLine := by assumption) :
    EX X (.Call (.Name "min" p) [a] [] pos) E O (.d (pD m)) := x_cb1 (cr_minP hc hu) PyProof.Rows.boot_min (by decide) (by decide) hm ha (fun v H ok hv Q k => by
    obtain ⟨q, vs, rfl, h3, h4⟩ := lst_of hv
    obtain ⟨h5, h6⟩ := pairs_of h4
    have hl : vs.length = ps.length := by rw [← h6, List.length_map]
    refine ⟨q, vs, keyV (vis O H), rfl, SqL.of (vis_sub _ _ _ _ h3), by rw [hl]; exact List.length_pos_of_mem h1, fun x hx => ?_, fun x hx hle => ?_⟩
    · obtain ⟨t, e, ht⟩ := h5 x hx
      exact ⟨t, e, .inl (rd_sub (vis_sub _ _) ht)⟩
    · have hxm : keyV (vis O H) x = m := by
        rw [← h6] at h1 h2
        obtain ⟨y, hy, e⟩ := List.mem_map.mp h1
        refine lexle_anti ?_ (h2 _ (List.mem_map_of_mem hx))
        rw [← e]
        exact hle y hy
      obtain ⟨t, rfl, ht⟩ := h5 x hx
      rw [hxm] at ht
      exact k _ H _ _ ⟨rfl, rfl⟩ (.refl ok) (.tup ht (.cons (.int _) (.cons (.int _) .nil)))) hg hs hpl
/-! ### wide numbers -/
theorem x_fdivW {n m : Nat} (ha : EX X a E O (vI (n : Int))) (hb : EX X b E O (vI (m : Int))) (h : 0 < m) (h2 : m < 2 ^ 1000) : EX X (.BinOp a .FloorDiv b pos) E O (vI ((n / m : Nat) : Int)) := EX.cast (x_I (k := fun i j => .int (i / j)) rfl (pe_op op_fdivW WE.pe WE.pe) (fun _ => .int _) ha hb ⟨Int.natCast_pos.mpr h, by
    have := PySem.Flt.log2_lt_of (show 0 < 1000 by decide) (h2 : ((m : Int)).natAbs < 2 ^ 1000)
    exact Nat.lt_trans this (by decide)⟩) (by rw [Int.natCast_ediv])
theorem x_mulW {n m : Nat} (ha : EX X a E O (vI (n : Int))) (hb : EX X b E O (vI (m : Int))) (h : n < 2 ^ 1000) (h2 : m < 2 ^ 1000) : EX X (.BinOp a .Mult b pos) E O (vI ((n * m : Nat) : Int)) := EX.cast (x_I (k := fun i j => .int (i * j)) rfl (pe_op op_mulW WE.pe WE.pe) (fun _ => .int _) ha hb (wide_mul (a := 1000) (b := 1000) (by rw [Int.natAbs_natCast]; exact h) (by rw [Int.natAbs_natCast]; exact h2) (by decide) (by decide) (by decide))) (by rw [Int.natCast_mul])
/-! ### a, b = x, y -/
theorem y_par (i j : Nat) {D : PD} {x y : Str} {px py pt pt2 : Pos} {kt k2 : Nat} {r1 r2 : SV} (hN : X.N.Nodup) (ha : EX X a E O r1) (hb : EX X b E O r2) (h : D.nx ((E.set i (some r1)).set j (some r2)) O)
    (hc : X.calm = true := by rfl) (hi : X.N[i]? = some x := by rfl) (hj : X.N[j]? = some y := by rfl) (hij : i ≠ j := by decide) (hx : X.env.scope.names.lookup x = some .local := by rfl) (hy : X.env.scope.names.lookup y = some .local := by rfl)
    (hw : swappedStores [.Tuple [.Name x px, .Name y py] kt pt] (.Tuple [a, b] k2 pt2) X.env = pure (some [x, y]) := by rfl)
    (hsw : swapsWithSole [.Tuple [.Name x px, .Name y py] kt pt] (.Tuple [a, b] k2 pt2) pos.line X.env = pure false := by rfl)
    (hs : starEach [a, b] X.env = (false, eval a X.env) :: starEach [b] X.env := by rfl) (hs2 : starEach [b] X.env = (false, eval b X.env) :: starEach [] X.env := by rfl) :
    SG X (.Assign [.Tuple [.Name x px, .Name y py] kt pt] (.Tuple [a, b] k2 pt2) pos) E O D := s_par i j hc hN ha hb h (ps_par hc hN hi hj hij hx hy WA.pa hw hsw) hs hs2
end
end Py
namespace Py
open PySem PySem.Spec PyProof.Rows L2

/-! ### set(a list of ints) -/
section
variable {P : Program} {w : World} {A : Around} {E : Value → Shared → Prop} {s : Shared}
abbrev oSet (w : World) : Obj := { cls := .type "set", dict := none, data := .set #[] 0 (.fresh 0 0 (!w.params.followText "set-order")) }
abbrev oIt (l : Addr) : Obj := { cls := .type "list_iterator", data := .fields #[.ref l, .int 0 0] }
/-- what a set made of ns is, in a heap that keeps h -/
def MadeSet (w : World) (h h' : Heap) (ns : List Int) (c : Nat) : Prop := SetR w h' h.objs.size (fun j => decide (j ∈ ns)) c ∧ c ≤ ns.length ∧ ∀ b o, h.get? b = some o → h'.get? b = some o
def MadeAt (w : World) (s : Shared) (ns : List Int) : Value → Shared → Prop := fun r s' => r = .none ∧ ∃ h' tk c, s' = { s with heap := h', toks := tk } ∧ MadeSet w s.heap h' ns c
set_option maxHeartbeats 4000000 in
theorem set_list_ints {l : Addr} {its : List Value} {ns : List Int} {Q : Value → Shared → Prop} (hh : A.handled = none) (hl : s.heap.IsList l its.toArray) (hi : IntsAre its ns) (hb : ns.length + 1 < scanBound)
    (h : ∀ h' tk c, MadeSet w s.heap h' ns c → Q (.ref s.heap.objs.size) { s with heap := h', toks := tk }) : wpAny (model P w) A (call (.type "set") [.ref l]) Q E s := by
  have hlen : its.toArray.size = ns.length := by rw [List.size_toArray]; exact IntsAre.length hi
  obtain ⟨_, _, k1⟩ := F.called_set.mro
  have k2 := F.called_set.made
  have k3 := F.called_set.sub
  have k4 := F.called_set.notType
  have k5 := F.called_set.canCreate
  have k6 := F.typeCall_set_1 (.ref l)
  refine wpAny_call (codeAny_of_tree ?_)
  show wpAny _ _ (callAny (.type "set") ⟨[.ref l], []⟩) _ _ _
  refine wpAny_pure ⟨Code.quiet_builtin _ (by decide +kernel), codeAny_builtin F.entry_type_call ?_⟩
  rw [Around.under_plain (weight_type_call_type "set" [.ref l] []) rfl]
  repeat (any_goals (first | assumption | wp_step))
  refine codeAny_mono (code_set_led1 (.ref l) (E := E) (Q₁ := fun v z => v = .ref s.heap.objs.size ∧ z = { s with heap := s.heap.push (oSet w) }) ⟨rfl, rfl⟩) ?_
  rintro (_ | _ | _ | _ | _) z hr
  all_goals first | exact hr | exact hr.elim | skip
  obtain ⟨rfl, rfl⟩ := hr
  have gS : (s.heap.push (oSet w)).get? s.heap.objs.size = some (oSet w) := Heap.get?_push_size _ rfl
  have tS : Shared.TypeIs { s with heap := s.heap.push (oSet w) } (.ref s.heap.objs.size) "set" := ⟨_, gS, rfl⟩
  have k7 := F.called_set.init.lookup
  have k8 := F.called_set.init.bind (.ref s.heap.objs.size)
  repeat (any_goals (first | assumption | wp_step))
  refine codeAny_mono (codeAny_call_builtin (R := wants (MadeAt w s ns) E) F.called_set.init.plain F.entry_set_init (check_set_init_1 tS ?_)) ?_
  · obtain ⟨⟨oc, od, odat, osl⟩, ol, e1, n, e2⟩ := hl
    obtain rfl : oc = .type "list" := e1
    obtain rfl : odat = .seq its.toArray n := e2
    have lS : l < s.heap.objs.size := Heap.lt_size ol
    have gl : (s.heap.push (oSet w)).get? l = some ⟨.type "list", od, .seq its.toArray n, osl⟩ := Heap.get?_push_of_some _ ol
    have q1 := PySem.F.sub_list_set
    have q2 := PySem.F.sub_list_frozenset
    have q3 : (Value.type "list" == Value.type "dict") = false := by decide
    have isl : (s.heap.push (oSet w)).IsList l its.toArray := ⟨_, gl, rfl, n, rfl⟩
    have hz : (s.heap.push (oSet w)).objs.size = s.heap.objs.size + 1 := Heap.size_push ..
    unfold Builtin.«set.__init__» noKeywords Builtin.Frozenset.updateFrom
    generalize hPI : pyIter = PI
    wp_walk
    subst hPI
    refine wpAny_pyIter_list isl (wpAny_bind (wpAny_runValue ?_))
    have hh3 : A.in1.in1.in1.handled = none := by simp [hh]
    have ne1 : l ≠ (s.heap.push (oSet w)).objs.size := by rw [hz]; exact Nat.ne_of_lt (Nat.lt_succ_of_lt lS)
    have ne2 : s.heap.objs.size ∉ [(s.heap.push (oSet w)).objs.size, l] := fun m => by
      rcases List.mem_cons.mp m with m | m
      · rw [hz] at m
        exact absurd m (Nat.ne_of_lt (Nat.lt_succ_self _))
      · exact absurd (List.mem_singleton.mp m) (Nat.ne_of_gt lS)
    refine set_update_ints ((Walks.list hh3 _ l ne1 its.toArray).toS) s.heap.objs.size ne2 ns hlen hb (fun i v hv => ?_) its.toArray.size 0 _ rfl (Nat.zero_le _) ⟨⟨_, Heap.get?_push_size _ rfl, rfl, rfl⟩, isl.push _⟩ ⟨0, Nat.le_refl 0, ?_⟩ fun s' c m hc hS => ?_
    · have hlt : i < ns.length := by rw [← hlen]; exact (Array.getElem?_eq_some_iff.mp hv).1
      obtain ⟨t, e⟩ := PyProof.Rows.IntsAre.int_at hi i v (by simpa using hv)
      exact ⟨ns[i], t, List.getElem?_eq_getElem hlt, by rw [e, List.getD_eq_getElem?_getD, List.getElem?_eq_getElem hlt]; rfl⟩
    · exact setR_new_at (Heap.get?_push_of_some (oIt l) gS)
    · obtain ⟨h2, g2, d2, t2, os2⟩ := s'
      obtain rfl : g2 = s.gens := m.gens
      obtain rfl : d2 = s.drawn := m.drawn
      obtain rfl : os2 = s.os := m.os
      show wpAny _ _ _ _ _ _
      refine wpAny_pure ?_
      show wpAny _ _ (ret Value.none) _ _ _
      refine wpAny_pure ⟨rfl, h2, t2, c, rfl, hS, hlen ▸ hc, fun b o e => m.heap b o (fun z => ?_) (Heap.get?_push_of_some _ (Heap.get?_push_of_some _ e))⟩
      have hb0 : b < s.heap.objs.size := Heap.lt_size e
      rcases List.mem_cons.mp z with z | z
      · exact absurd z (Nat.ne_of_lt hb0)
      · have z' := List.mem_singleton.mp z
        rw [hz] at z'
        exact absurd z' (Nat.ne_of_lt (Nat.lt_succ_of_lt hb0))
  · rintro (_ | _ | _ | _ | _) z hr
    all_goals first | exact hr | exact hr.elim | skip
    obtain ⟨rfl, h2, tk, c, rfl, hM⟩ := hr
    repeat (any_goals (first | assumption | wp_step))
    exact h h2 tk c hM
end
section
variable {X : Cx} {a b c e o : Expr} {es : List Expr} {E : En} {O : Own} {pos p p' pos' : Pos}
def rSetL (K : PySem.W.Frag) (w : World) : List V → Hp → VK → Prop := fun vs H Q => ∃ (q : Addr) (ns D : List Int), vs = [V.ref q] ∧ SqL K H q (ns.map V.int) ∧ ns.length ≤ 4000 ∧ (∀ k ∈ ns, k ∈ D) ∧
  ∀ q' n, H q' = none → n ≤ D.length → Q (.ref q') (upd H q' (SetO w q' (fun j => decide (j ∈ ns)) n))
theorem cr_setL (hc : X.calm = true) : CallR X (.type "set") (rSetL X.K X.w) := by
  intro pins s σ H vs us Q I r ⟨q, ns, D, e0, hq, hz, hD, z⟩
  subst e0
  rw [Vals.ref1 r]
  obtain ⟨its, rv, pl, _⟩ := I.list hq
  refine set_list_ints (I.ok.hd hc) pl.isList rv.ints (by unfold scanBound; omega) fun h' tk n M => ?_
  obtain ⟨R, _, hk⟩ := M
  have hf : H s.heap.objs.size = none := I.hok.fresh (Nat.le_refl _)
  exact ⟨.ref s.heap.objs.size, _, I.laid (t' := tk) hk (Nat.le_refl _) (setO_new R), rfl, z _ n hf (set_few R hD)⟩
theorem x_sortedSetL {ns D : List Int} (hm : X.mg "sorted" = none) (hm2 : X.mg "set" = none) (ha : EX X a E O (vL (ns.map .int))) (hz : ns.length ≤ 4000) (hD : ∀ k, k ∈ D ↔ k ∈ ns) (hp : D.Pairwise (· < ·)) (hD2 : D.length < 64) (hg : Gl X "sorted" := by rfl) (hg2 : Gl X "set" := by rfl) (hc : X.calm = true := by rfl) (hs : starEach [a] X.env = (false, eval a X.env) :: starEach [] X.env := by rfl) (hpl2 : (backTo pos' (starEach [] X.env)).any (·.1) = false := by rfl)
    (hs2 : starEach [.Call (.Name "set" p') [a] [] pos'] X.env = (false, eval (.Call (.Name "set" p') [a] [] pos') X.env) :: starEach [] X.env := by rfl) (hpl : (backTo pos (starEach [] X.env)).any (·.1) = false := by rfl) :
    EX X (.Call (.Name "sorted" p) [.Call (.Name "set" p') [a] [] pos'] [] pos) E O (vL (D.map .int)) := fun σ H R Q k =>
  we_of (pe_callB (cr_sortedSet hc) hg hm PyProof.Rows.boot_sorted (pa_cons (pe_callTy (cr_setL hc) hg2 hm2 PyProof.Rows.boot_set WA.pa (by decide) (by decide) hs hpl2) pa_nil hs2) (by decide) (by decide) hs2 hpl) (by
  refine (a_cons ha a_nil hs : EA X [a] E O [_]) σ H R _ fun us H1 rs O1 ⟨e1, e2⟩ s1 z1 => ?_
  subst e1; subst e2
  cases z1 with
  | cons z1 z2 =>
    cases z2
    obtain ⟨l, rfl, h1⟩ := lst_ints z1
    refine ⟨l, ns, D, rfl, SqL.of (vis_sub _ _ _ _ h1), hz, fun x hx => (hD x).mpr hx, fun q' n hq hn => ?_⟩
    have s2 := Stp.laid (o := SetO X.w q' (fun j => decide (j ∈ ns)) n) s1.ok hq
    refine ⟨q', _, n, rfl, upd_same, by omega, fun ns' p2 w1 w2 _ hp2 => ?_⟩
    have e : ns' = D := by
      refine List.Perm.eq_of_pairwise (le := (· < ·)) (fun a b _ _ h1 h2 => absurd (Int.lt_trans h1 h2) (Int.lt_irrefl _)) w1 hp ?_
      refine (List.perm_ext_iff_of_nodup (w1.imp fun h e => ?_) (hp.imp fun h e => ?_)).mpr fun x => ?_
      · exact Int.lt_irrefl _ (e ▸ h)
      · exact Int.lt_irrefl _ (e ▸ h)
      · rw [w2, hD]
        simp
    subst e
    have s3 := Stp.laid (o := .lst (ns'.map V.int)) s2.ok hp2
    exact k _ _ _ _ ⟨rfl, rfl⟩ ((s1.trans s2).trans s3) (.lst (vis_laid s2.ok hp2) dpa_ints))
/-- len(set(xs)) -/
def rLenSet (w : World) : List V → Hp → VK → Prop := fun vs H Q => ∃ (a : Addr) (ns D : List Int) (n : Nat), vs = [V.ref a] ∧ H a = some (SetO w a (fun j => decide (j ∈ ns)) n) ∧ D.Nodup ∧ (∀ k, k ∈ D ↔ k ∈ ns) ∧ Q (.int D.length) H
theorem cr_lenSet : CallR X (.builtin "len") (rLenSet X.w) := by
  intro pins s σ H vs us Q I r ⟨a, ns, D, n, e0, ha, hn, hD, z⟩
  subst e0
  rw [Vals.ref1 r]
  obtain ⟨o, es, ep, t, g1, g2, g3, _, g5, g6, g7, g8, g9, _, _⟩ := setO_get I ha
  have hp : (es.toList.map keyOf).Perm D := (List.perm_ext_iff_of_nodup g5 hn).mpr fun k => by
    rw [hD, ← g6]
    simp
  have hl : es.size = D.length := by
    have := hp.length_eq
    rw [List.length_map, Array.length_toList] at this
    exact this
  refine call_len_set g1 g2 g3 g8 (by unfold scanBound at g7; omega) ⟨.int D.length, H, I.tok _, ⟨_, by rw [hl]⟩, z⟩
theorem x_lenSetL {ns D : List Int} (hm : X.mg "len" = none) (hm2 : X.mg "set" = none) (ha : EX X a E O (vL (ns.map .int))) (hz : ns.length ≤ 4000) (hn : D.Nodup) (hD : ∀ k, k ∈ D ↔ k ∈ ns) (hg : Gl X "len" := by rfl) (hg2 : Gl X "set" := by rfl) (hc : X.calm = true := by rfl) (hs : starEach [a] X.env = (false, eval a X.env) :: starEach [] X.env := by rfl) (hpl2 : (backTo pos' (starEach [] X.env)).any (·.1) = false := by rfl)
    (hs2 : starEach [.Call (.Name "set" p') [a] [] pos'] X.env = (false, eval (.Call (.Name "set" p') [a] [] pos') X.env) :: starEach [] X.env := by rfl) (hpl : (backTo pos (starEach [] X.env)).any (·.1) = false := by rfl) :
    EX X (.Call (.Name "len" p) [.Call (.Name "set" p') [a] [] pos'] [] pos) E O (vI (D.length : Nat)) := fun σ H R Q k =>
  we_of (pe_callB cr_lenSet hg hm PySem.boot_len (pa_cons (pe_callTy (cr_setL hc) hg2 hm2 PyProof.Rows.boot_set WA.pa (by decide) (by decide) hs hpl2) pa_nil hs2) (by decide) (by decide) hs2 hpl) (by
  refine (a_cons ha a_nil hs : EA X [a] E O [_]) σ H R _ fun us H1 rs O1 ⟨e1, e2⟩ s1 z1 => ?_
  subst e1; subst e2
  cases z1 with
  | cons z1 z2 =>
    cases z2
    obtain ⟨l, rfl, h1⟩ := lst_ints z1
    refine ⟨l, ns, D, rfl, SqL.of (vis_sub _ _ _ _ h1), hz, fun x hx => (hD x).mpr hx, fun q' n hq _ => ?_⟩
    have s2 := Stp.laid (o := SetO X.w q' (fun j => decide (j ∈ ns)) n) s1.ok hq
    exact ⟨q', ns, D, n, rfl, upd_same, hn, hD, k _ _ _ _ ⟨rfl, rfl⟩ (s1.trans s2) (.int _)⟩)
end
end Py
namespace Py
open PySem PySem.Spec PyProof.Rows L2

/-! ### sorted(a tuple) -/
section
variable {prog : Program} {w : World} {A : Around} {E : Value → Shared → Prop} {s : Shared}
abbrev hC (h : Heap) (vs : List Value) : Heap := (h.push (seqObj "list" #[] 0)).update h.objs.size (Obj.mapSeq (· ++ vs.toArray))
theorem collect_tup {t : Addr} {vs : List Value} {Q : List Value → Shared → Prop} (ht : IsTup s.heap t vs.toArray) (hz : vs.length ≤ sizeLine) (h : Q vs { s with heap := hC s.heap vs }) : wpAny (model prog w) A (collect (.ref t)) Q E s := by
  obtain ⟨o, ho, hc, n, hd⟩ := ht
  have g0 : (s.heap.push (seqObj "list" #[] 0)).get? s.heap.objs.size = some (seqObj "list" #[] 0) := Heap.get?_push_size _ rfl
  have g1 : (s.heap.push (seqObj "list" #[] 0)).get? t = some o := Heap.get?_push_of_some _ ho
  unfold collect
  refine wpAny_bind (wpAny_runValue (codeAny_builtin entry_proto_collect' ?_))
  show wpAny _ _ (do again (.builtin "list.__iadd__" ⟨[← newList [], .ref t], []⟩)) _ _ s
  refine wpAny_bind (wpAny_newList (wpAny_pure ⟨Code.quiet_builtin _ (by decide +kernel), codeAny_builtin entry_list_iadd' ?_⟩))
  show wpAny _ _ (Builtin.List.listExtendWith (.ref s.heap.objs.size) (.ref t) (.ref s.heap.objs.size)) _ _ { s with heap := s.heap.push (seqObj "list" #[] 0) }
  unfold Builtin.List.listExtendWith
  refine wpAny_bind (wpAny_typeOf (T := "tuple") ⟨o, g1, hc⟩ ?_)
  rw [if_pos (by rw [show (Value.type "tuple" == Value.type "tuple") = true from rfl]; simp)]
  refine wpAny_bind (listItems_at g1 hd (wpAny_bind (listItems_at g0 rfl ?_)))
  rw [if_neg (by simp)]
  refine wpAny_bind (listUpdate_at g0 rfl ?_ (Nat.zero_le _) (by simpa using Nat.le_succ_of_le hz))
  refine wpAny_pure ?_
  show wpAny (model prog w) A (load s.heap.objs.size >>= fun o => _) Q E { s with heap := hC s.heap vs }
  refine wpAny_bind (wpAny_load (get?_update_seq g0 _) ?_)
  show wpAny _ _ (pure ((#[] : Array Value) ++ vs.toArray).toList) Q E _
  have e : ((#[] : Array Value) ++ vs.toArray).toList = vs := by simp
  rw [e]
  exact wpAny_pure h
theorem sorted_tupO {t : Addr} {vs : List Value} {lt : Value → Value → Bool} {Q : Value → Shared → Prop} (o : SrtO.Swo lt) (ht : IsTup s.heap t vs.toArray) (hz : vs.length ≤ sizeLine)
    (hS : 2 ≤ vs.length → ∀ (h : Heap) (a : Addr), h.get? a = some (seqObj "list" vs.toArray 0) → (∀ b x, s.heap.get? b = some x → b ≠ a ∧ h.get? b = some x) → SrtO.SortableO prog w A.in1.in1 { s with heap := h } a vs lt)
    (h : ∀ out : List Value, SrtO.Srtd lt out → SrtO.Stb lt out vs → Q (.ref (s.heap.objs.size + 1)) { s with heap := sortedAll s.heap vs out.toArray }) : wpAny (model prog w) A (call (.builtin "sorted") [.ref t]) Q E s := by
  have hsz : (hC s.heap vs).objs.size = s.heap.objs.size + 1 := by rw [Heap.size_update, size_push']
  have g0 : ((hC s.heap vs).push (seqObj "list" vs.toArray 0)).get? (s.heap.objs.size + 1) = some (seqObj "list" vs.toArray 0) := by rw [← hsz]; exact Heap.get?_push_size _ rfl
  have keep : ∀ b x, s.heap.get? b = some x → b ≠ s.heap.objs.size + 1 ∧ ((hC s.heap vs).push (seqObj "list" vs.toArray 0)).get? b = some x := fun b x q => by
    have hlt : b < s.heap.objs.size := Heap.lt_size q
    refine ⟨Nat.ne_of_lt (Nat.lt_succ_of_lt hlt), Heap.get?_push_of_some _ ?_⟩
    have e : (hC s.heap vs).get? b = (s.heap.push (seqObj "list" #[] 0)).get? b := Heap.get?_update_ne _ _ _ _ (Nat.ne_of_lt hlt)
    rw [e]
    exact Heap.get?_push_of_some _ q
  refine Calls.call_function_entry kind_sorted plain_sorted entry_sorted (args_sorted1 _) ?_
  unfold Builtin.«sorted»
  refine wpAny_bind (m := checkCount "sorted" 1 1 _) (wpAny_pure (wpAny_bind (collect_tup ht hz (wpAny_bind (wpAny_newList ?_ hz)))))
  show wpAny _ _ _ _ _ { s with heap := (hC s.heap vs).push (seqObj "list" vs.toArray 0) }
  rw [hsz]
  refine wpAny_bind (wpAny_holding (wpAny_call_entry slot_list_sort ⟨_, g0, rfl⟩ entry_list_sort (SrtO.list_sort_ord o g0 hz (fun h2 => hS h2 _ _ g0 keep) fun out hs hb => ⟨_, rfl, ?_⟩) (args_list_sort _)))
  exact wpAny_pure ⟨_, rfl, h out hs hb⟩
end
section
variable {X : Cx} {a b c e o : Expr} {es : List Expr} {E : En} {O : Own} {pos p p' pos' : Pos}
def rSrtTI (K : PySem.W.Frag) : List V → Hp → VK → Prop := fun vs H Q => ∃ (t : Addr) (ns : List Int), vs = [V.ref t] ∧ SqT K H t (ns.map V.int) ∧
  ∀ (ns' : List Int) (p : Addr), ns'.Perm ns → ns'.Pairwise (· ≤ ·) → H p = none → Q (.ref p) (upd H p (.lst (ns'.map V.int)))
theorem cr_srtTI : CallR X (.builtin "sorted") (rSrtTI X.K) := by
  intro pins s σ H vs us Q I r ⟨t, ns, e0, hs, q⟩
  subst e0
  obtain ⟨its, rv, ht, hz⟩ := I.tuple hs
  rw [Vals.ref1 r]
  have hi := rv.ints
  have hlz : its.length ≤ sizeLine := by rw [← rv.length]; exact hz
  refine sorted_tupO SrtO.swo_int ht hlz (fun h2 h₁ a' _ _ => SrtO.ints_sortable hi h2) fun out h1 h2 => ?_
  obtain ⟨k1, k2, k3⟩ := SrtO.ints_out hi h1 h2
  obtain ⟨ep, he⟩ := PyProof.Rows.sortedAll_at s.heap its out.toArray
  have hl2 : ((out.map SrtO.iv).map V.int).length ≤ sizeLine := by
    rw [List.length_map, k2.length_eq]
    simpa using hz
  refine ⟨.ref (s.heap.objs.size + 1), upd H (s.heap.objs.size + 1) (.lst ((out.map SrtO.iv).map V.int)), I.laid (t' := s.toks) (fun _ _ => PyProof.Rows.sortedAll_old) (Nat.le_succ _) ?_, rfl, q _ _ k2 k3 (I.hok.fresh (Nat.le_succ _))⟩
  exact ⟨hl2, out, ep, vals_of_ints k1, he⟩
theorem x_sortedTI {ns D : List Int} (hm : X.mg "sorted" = none) (ha : EX X a E O (vT (ns.map .int))) (hp : D.Perm ns) (hD : D.Pairwise (· ≤ ·)) (hg : Gl X "sorted" := by rfl) (hs : starEach [a] X.env = (false, eval a X.env) :: starEach [] X.env := by rfl) (hpl : (backTo pos (starEach [] X.env)).any (·.1) = false := by rfl) :
    EX X (.Call (.Name "sorted" p) [a] [] pos) E O (vL (D.map .int)) := x_cb1 cr_srtTI PyProof.Rows.boot_sorted (by decide) (by decide) hm ha (fun v H ok hv Q k => by
    obtain ⟨q, rfl, h3⟩ := tup_ints hv
    refine ⟨q, ns, rfl, .inl (rd_sub (vis_sub _ _) h3), fun ys p2 w1 w2 hp2 => ?_⟩
    have e : ys = D := List.Perm.eq_of_pairwise (le := (· ≤ ·)) (fun a b _ _ h1 h2 => Int.le_antisymm h1 h2) w2 hD (w1.trans hp.symm)
    subst e
    have s3 := Stp.laid (o := .lst (ys.map V.int)) ok hp2
    exact k _ _ _ _ ⟨rfl, rfl⟩ s3 (.lst (vis_laid ok hp2) dpa_ints)) hg hs hpl
/-- sorted(a tuple of pairs of ints) -/
def rSrtTP (K : PySem.W.Frag) : List V → Hp → VK → Prop := fun vs H Q => ∃ (a : Addr) (xs : List V) (k : V → Int × Int), vs = [V.ref a] ∧ SqT K H a xs ∧
  (∀ x ∈ xs, ∃ t, x = V.ref t ∧ SqT K H t [.int (k x).1, .int (k x).2]) ∧ ∀ ys p, ys.Pairwise (fun x y => lexle (k x) (k y)) → ys.Perm xs → H p = none → Q (.ref p) (upd H p (.lst ys))
theorem cr_srtTP : CallR X (.builtin "sorted") (rSrtTP X.K) := by
  intro pins s σ H vs us Q I r ⟨a, xs, k, e0, hs, hx, q⟩
  subst e0
  obtain ⟨its, rv, hl, hz⟩ := I.tuple hs
  have hlen : its.length ≤ sizeLine := rv.length ▸ hz
  rw [Vals.ref1 r]
  obtain ⟨e1, e2⟩ := refs_back rv (fun x m => (hx x m).imp fun t z => z.1)
  have hp : ∀ v ∈ its, Srt.IsPair s.heap v (k (backV v)).1 (k (backV v)).2 := fun v hv => by
    obtain ⟨t, rfl⟩ := e2 v hv
    obtain ⟨t', e, ht⟩ := hx (V.ref t) (e1 ▸ List.mem_map.mpr ⟨_, hv, rfl⟩)
    injection e with e
    subst e
    obtain ⟨its2, r2, ⟨o, ho, hc, n, hd⟩, _⟩ := I.tuple ht
    obtain ⟨u1, u2, rfl, ⟨t1, rfl⟩, ⟨t2, rfl⟩⟩ := vals2 r2
    exact ⟨t, o, t1, t2, n, rfl, ho, hc, hd⟩
  refine sorted_tupO (SrtO.swo_lex fun v => k (backV v)) hl hlen (fun h2 h₁ a' ha kk => ?_) fun out h1 h2 => ?_
  · refine SrtO.pairs_sortableO (s := { s with heap := h₁ }) (by omega) (fun v hm => (hp v hm).keeps fun b o e _ => (kk b o e).2) fun o e => ?_
    have e' : some o = some (seqObj "list" its.toArray 0) := e.symm.trans ha
    cases e'
    intro c
    exact absurd (Value.type.inj c) (by decide)
  · have h3 : ∀ u ∈ out, ∃ a, u = Value.ref a := fun u hu => e2 u ((h2.perm.mem_iff).mp hu)
    have pm : (out.map backV).Perm xs := by
      rw [e1]
      exact h2.perm.map backV
    obtain ⟨n, hn⟩ := PyProof.Rows.sortedAll_at s.heap its out.toArray
    have new : ObjOk X.prog X.w (upd H (s.heap.objs.size + 1) (.lst (out.map backV))) (sortedAll s.heap its out.toArray) (s.heap.objs.size + 1) (.lst (out.map backV)) := ⟨by rw [pm.length_eq]; exact hz, out, n, vals_back h3, hn⟩
    refine ⟨.ref (s.heap.objs.size + 1), _, I.laid (t' := s.toks) (fun _ _ => PyProof.Rows.sortedAll_old) (Nat.le_succ _) new, rfl, q _ _ ?_ pm (I.hok.fresh (Nat.le_succ _))⟩
    rw [List.pairwise_map]
    exact h1
theorem x_sortedTP {ps ps' : List (Int × Int)} (hm : X.mg "sorted" = none) (ha : EX X a E O (vT (ps.map pD))) (hp : ps'.Perm ps) (hs' : ps'.Pairwise lexle) (hg : Gl X "sorted" := by rfl) (hs : starEach [a] X.env = (false, eval a X.env) :: starEach [] X.env := by rfl) (hpl : (backTo pos (starEach [] X.env)).any (·.1) = false := by rfl) :
    EX X (.Call (.Name "sorted" p) [a] [] pos) E O (vL (ps'.map pD)) := x_cb1 cr_srtTP PyProof.Rows.boot_sorted (by decide) (by decide) hm ha (fun v H ok hv Q k => by
    obtain ⟨q, vs, rfl, h3, h4⟩ := tup_of hv
    obtain ⟨h5, h6⟩ := pairs_of h4
    refine ⟨q, vs, keyV (vis O H), rfl, .inl (rd_sub (vis_sub _ _) h3), fun x hx => ?_, fun ys p2 w1 w2 hp2 => ?_⟩
    · obtain ⟨t, e, ht⟩ := h5 x hx
      exact ⟨t, e, .inl (rd_sub (vis_sub _ _) ht)⟩
    · have e : ys.map (keyV (vis O H)) = ps' := by
        refine List.Perm.eq_of_pairwise (le := lexle) (fun a b _ _ => lexle_anti) (List.pairwise_map.mpr w1) hs' ((w2.map _).trans (by rw [h6]; exact hp.symm))
      have s3 := Stp.laid (o := .lst ys) ok hp2
      have hd : DqAll (vis O H) ys (ps'.map pD) := by
        rw [← e]
        exact dq_pairs fun x hx => h5 x (w2.mem_iff.mp hx)
      exact k _ _ _ _ ⟨rfl, rfl⟩ s3 (.lst (vis_laid ok hp2) (dpAll_sub s3.vis _ _ hd))) hg hs hpl
end
end Py
namespace Py
open PySem PySem.Spec PyProof.Rows L2
section
variable {X : Cx} {a b c e o : Expr} {es : List Expr} {E : En} {O : Own} {pos p p' pos' : Pos}
/-- sorted(a tuple of ints), the new list one's own -/
theorem g_sortedTI {ns D : List Int} (hm : X.mg "sorted" = none) (ha : EX X a E O (vT (ns.map .int))) (hp : D.Perm ns) (hD : D.Pairwise (· ≤ ·)) (hg : Gl X "sorted" := by rfl) (hs : starEach [a] X.env = (false, eval a X.env) :: starEach [] X.env := by rfl) (hpl : (backTo pos (starEach [] X.env)).any (·.1) = false := by rfl) :
    EG X (.Call (.Name "sorted" p) [a] [] pos) E O fun r O' => ∃ q, r = .v (.ref q) ∧ O' = (q, .lst (D.map .int)) :: O ∧ q ∉ O.map (·.1) := fun σ H R Q k => we_of (pe_callB cr_srtTI hg hm PyProof.Rows.boot_sorted WA.pa (by decide) (by decide) hs hpl) (by
  refine (a_cons ha a_nil hs : EA X [a] E O [_]) σ H R _ fun us H1 rs O1 ⟨e1, e2⟩ s1 z1 => ?_
  subst e1; subst e2
  cases z1 with
  | cons z1 z2 =>
    cases z2
    obtain ⟨q, rfl, h3⟩ := tup_ints z1
    refine ⟨q, ns, rfl, .inl (rd_sub (vis_sub _ _) h3), fun ys p2 w1 w2 hp2 => ?_⟩
    have e : ys = D := List.Perm.eq_of_pairwise (le := (· ≤ ·)) (fun a b _ _ h1 h2 => Int.le_antisymm h1 h2) w2 hD (w1.trans hp.symm)
    subst e
    have s2 := Stp.own (o := .lst (ys.map .int)) (ho := .lst (ys.map V.int)) s1.ok hp2 ⟨_, upd_same, dpa_ints⟩
    exact k _ _ _ _ ⟨p2, rfl, rfl, s1.ok.fresh hp2⟩ (s1.trans s2) rfl)
theorem erase_at {ns : List Int} {k : Int} (h : k ∈ ns) : ∃ j, ns[j]? = some k ∧ (∀ m : Nat, m < j → ns[m]? ≠ some k) ∧ ns.eraseIdx j = ns.erase k := by
  induction ns with
  | nil => cases h
  | cons x r ih =>
    by_cases e : x = k
    · subst e
      exact ⟨0, rfl, fun m hm => absurd hm (Nat.not_lt_zero _), by simp⟩
    · have h' : k ∈ r := by
        rcases List.mem_cons.mp h with z | z
        · exact absurd z.symm e
        · exact z
      obtain ⟨j, h1, h2, h3⟩ := ih h'
      refine ⟨j + 1, by simpa using h1, fun m hm => ?_, ?_⟩
      · cases m with
        | zero => simp [e]
        | succ m => simpa using h2 m (by omega)
      · rw [List.eraseIdx_cons_succ, h3, List.erase_cons_tail (by simpa using e)]
theorem g_remove {q : Addr} {ns : List Int} {k : Int} (ha : EX X a E O (.v (.ref q))) (hb : EX X b E O (vI k)) (hO : (q, .lst (ns.map .int)) ∈ O) (hk : k ∈ ns)
    (p1 : PE X (.Call (.Attribute a "remove" p) [b] [] pos) (tBM X.K "list" rRemI (WE X a) (WA X [b]))) (hs : starEach [b] X.env = (false, eval b X.env) :: starEach [] X.env := by rfl) :
    EG X (.Call (.Attribute a "remove" p) [b] [] pos) E O fun r O' => r = vN ∧ O' = setO O q (.lst ((ns.erase k).map .int)) := fun σ H R Q kk => we_of p1 (by
  refine ha σ H R _ fun v H1 r1 O1 ⟨e1, e2⟩ s1 z1 => ?_
  subst e1; subst e2
  obtain rfl : v = .ref q := z1
  obtain ⟨vs, h1, h2⟩ := s1.ok.is _ hO
  refine ⟨.inl ⟨rfl, _, SqL.of h1⟩, ?_⟩
  refine (a_cons hb a_nil hs : EA X [b] E _ [vI k]) σ H1 (R.step s1) _ fun us H2 rs O2 ⟨e1, e2⟩ s2 z2 => ?_
  subst e1; subst e2
  cases z2 with
  | cons z2 z3 =>
    cases z3
    obtain rfl := int_of z2
    obtain ⟨vs2, h3, h4⟩ := s2.ok.is _ hO
    obtain rfl := dpa_ofInts h4
    obtain ⟨j, g1, g2, g3⟩ := erase_at hk
    refine ⟨q, ns, k, j, rfl, rfl, h3, g1, g2, ?_⟩
    rw [g3]
    have s3 := Stp.put (o := .lst ((ns.erase k).map .int)) (ho := .lst ((ns.erase k).map V.int)) s2.ok (List.mem_map_of_mem hO) (fun x e => by rw [h3] at e; cases e) ⟨_, upd_same, dpa_ints⟩
    exact kk _ _ _ _ ⟨rfl, rfl⟩ ((s1.trans s2).trans s3) .non)
theorem s_remove {D : PD} {q : Addr} {ns : List Int} {k : Int} (ha : EX X a E O (.v (.ref q))) (hb : EX X b E O (vI k)) (hO : (q, .lst (ns.map .int)) ∈ O) (hk : k ∈ ns) (h : D.nx E (setO O q (.lst ((ns.erase k).map .int))))
    (hbase : attributeBase a "remove" X.env (eval a X.env) = eval a X.env := by rfl)
    (hfew : ((backTo pos (starEach [b] X.env)).all (fun x => !x.1) && (backToKw pos (keywordEach [] X.env)).all (fun x => x.1.isSome)
      && decide (([b] : List Expr).length + ([] : List Keyword).length + (if ([] : List Keyword).isEmpty then 0 else 1) < 30)) = true := by rfl)
    (hline : (p.endLine == pos.line) = true := by rfl) (hplain : (backTo pos (starEach [] X.env)).any (·.1) = false := by rfl) (hs : starEach [b] X.env = (false, eval b X.env) :: starEach [] X.env := by rfl)
    (hw : swapsWith (.Call (.Attribute a "remove" p) [b] [] pos) none pos'.line X.env = pure false := by rfl) :
    SG X (.Expr (.Call (.Attribute a "remove" p) [b] [] pos) pos') E O D := s_exprG (g_remove ha hb hO hk (pe_bm PySem.F.plainAttrs_list PySem.F.slot_list_remove PySem.F.type_list_remove mt_remove WE.pe WA.pa hbase hfew hline hs hplain) hs) (fun r O' ⟨e1, e2⟩ => by subst e2; exact h) hw
end
end Py
namespace Py
open PySem PySem.Spec PyProof.Rows L2
/-! ### a dict while it is walked -/
mutual
theorem dq_re {W W2 : Hp} (h1 : ∀ a vs, W a = some (.lst vs) → W2 a = some (.lst vs)) (h2 : ∀ a vs, Rd W a (.tup vs) → Rd W2 a (.tup vs)) : ∀ (d : PyData) (v : V), Dq W v d → Dq W2 v d
  | .none, _, h => by cases h; exact .non
  | .bool b, _, h => by cases h; exact .bl b
  | .int i, _, h => by cases h; exact .int i
  | .str x, _, h => by cases h; exact .str x
  | .list ds, _, h => by
    cases h with
    | lst a b => exact .lst (h1 _ _ a) (dqa_re h1 h2 ds _ b)
  | .tuple ds, _, h => by
    cases h with
    | tup a b => exact .tup (h2 _ _ a) (dqa_re h1 h2 ds _ b)
  | .dict _, _, h => by cases h
theorem dqa_re {W W2 : Hp} (h1 : ∀ a vs, W a = some (.lst vs) → W2 a = some (.lst vs)) (h2 : ∀ a vs, Rd W a (.tup vs) → Rd W2 a (.tup vs)) : ∀ (ds : List PyData) (vs : List V), DqAll W vs ds → DqAll W2 vs ds
  | [], _, h => by cases h; exact .nil
  | d :: ds, _, h => by
    cases h with
    | cons a b => exact .cons (dq_re h1 h2 d _ a) (dqa_re h1 h2 ds _ b)
end
section
variable {X : Cx} {a b c e o : Expr} {es : List Expr} {E : En} {O : Own} {pos p p' pos' : Pos}
theorem x_lock (i : Nat) {q : Addr} {kvs : List (Int × PyData)} {d : PyData} (hi : E[i]? = some (some (.v (.ref q)))) (hO : (q, .dic kvs) ∈ O) (h : EX X e (E.set i (some (.k kvs))) (dropO O q) (.d d)) : EX X e E O (.d d) := fun σ H R Q k => we_of (pe_lock WE.pe) (by
  obtain ⟨vs, g1, g2⟩ := R.own.is _ hO
  have hqO : q ∈ O.map (·.1) := List.mem_map_of_mem hO
  refine ⟨q, .dK vs, g1, trivial, fun od => ?_⟩
  have hne : ∀ {x}, x ∉ O.map (·.1) → x ≠ q := fun hx e => hx (e ▸ hqO)
  have nq : q ∉ (dropO O q).map (·.1) := fun z => (dropO_keys.mp z).2 rfl
  have sub : Sub (vis O H) (vis (dropO O q) (upd H q (.frz od (.dK vs)))) := fun x u hx => by
    obtain ⟨n, hx⟩ := vis_some hx
    exact vis_of (fun z => n (dropO_keys.mp z).1) (by rw [upd_ne (hne n)]; exact hx)
  have kvr : KvR (vis O H) vs kvs := g2
  have ok1 : OwnOk X.K (dropO O q) (upd H q (.frz od (.dK vs))) := ⟨R.own.nd.sublist (List.filter_sublist.map _), fun r hr => by
    obtain ⟨r1, r2⟩ := dropO_mem.mp hr
    refine (R.own.is r r1).sub sub (upd_ne r2) fun dx hd => ?_
    have : dx ≠ q := fun e => by rw [e, g1] at hd; cases hd
    rw [upd_ne this]
    exact hd⟩
  have R1 : Rep X.K (E.set i (some (.k kvs))) (dropO O q) σ (upd H q (.frz od (.dK vs))) := ⟨by rw [List.length_set]; exact R.len, ok1, fun j r e => by
    by_cases hj : i = j
    · subst hj
      obtain ⟨hlt, _⟩ := List.getElem?_eq_some_iff.mp hi
      rw [List.getElem?_set_self hlt] at e
      cases e
      obtain ⟨v, z1, z2⟩ := R.sl i _ hi
      obtain rfl : v = .ref q := z2
      exact ⟨_, z1, q, od, vs, rfl, vis_of nq upd_same, Paired.mapP kvr fun _ _ z => ⟨z.1, dp_sub sub _ _ z.2⟩⟩
    · rw [List.getElem?_set_ne hj] at e
      obtain ⟨v, z1, z2⟩ := R.sl j r e
      exact ⟨v, z1, z2.sub sub⟩⟩
  refine h σ _ R1 _ fun v H' r' O' ⟨e1, e2⟩ s z => ?_
  subst e1; subst e2
  have hq' : H' q = some (.frz od (.dK vs)) := s.keep q _ nq upd_same
  refine ⟨hq', ?_⟩
  have b1 : ∀ x vs', vis (dropO O q) H' x = some (.lst vs') → vis O (upd H' q (.dK vs)) x = some (.lst vs') := fun x vs' hx => by
    obtain ⟨n, hx⟩ := vis_some hx
    have hxq : x ≠ q := fun e => by rw [e, hq'] at hx; cases hx
    refine vis_of (fun z => n (dropO_keys.mpr ⟨z, hxq⟩)) (by rw [upd_ne hxq]; exact hx)
  have b2 : ∀ x vs', Rd (vis (dropO O q) H') x (.tup vs') → Rd (vis O (upd H' q (.dK vs))) x (.tup vs') := fun x vs' hx => by
    rcases hx with hx | ⟨oo, hx⟩
    · obtain ⟨n, hx⟩ := vis_some hx
      have hxq : x ≠ q := fun e => by rw [e, hq'] at hx; cases hx
      exact .inl (vis_of (fun z => n (dropO_keys.mpr ⟨z, hxq⟩)) (by rw [upd_ne hxq]; exact hx))
    · obtain ⟨n, hx⟩ := vis_some hx
      have hxq : x ≠ q := fun e => by rw [e, hq'] at hx; cases hx
      exact .inr ⟨oo, vis_of (fun z => n (dropO_keys.mpr ⟨z, hxq⟩)) (by rw [upd_ne hxq]; exact hx)⟩
  have keep : ∀ x u, x ∉ O.map (·.1) → H x = some u → upd H' q (.dK vs) x = some u := fun x u hx hu => by
    rw [upd_ne (hne hx)]
    exact s.keep x u (fun z => hx (dropO_keys.mp z).1) (by rw [upd_ne (hne hx)]; exact hu)
  have st : Stp X.K O H O (upd H' q (.dK vs)) := by
    refine ⟨keep, fun _ z => .inl z, fun x hx => ?_, R.own.nd, fun r hr => ?_⟩
    · by_cases hxq : x = q
      · subst hxq
        rw [upd_same] at hx
        cases hx
      · rw [upd_ne hxq] at hx
        have := s.dom x hx
        rw [upd_ne hxq] at this
        exact this
    · by_cases hrq : r.1 = q
      · have er : r = (q, .dic kvs) := by
          have hnd := R.own.nd
          exact own_eq hnd hr hO hrq
        subst er
        refine ⟨vs, upd_same, Paired.mapP kvr fun _ _ z => ⟨z.1, dp_sub (fun x u hx => ?_) _ _ z.2⟩⟩
        obtain ⟨n, hx⟩ := vis_some hx
        exact vis_of n (keep x u n hx)
      · have hr' := s.ok.is r (dropO_mem.mpr ⟨hr, hrq⟩)
        obtain ⟨ra, ro⟩ := r
        cases ro with
        | lst ds =>
          obtain ⟨us, u1, u2⟩ := hr'
          exact ⟨us, by rw [upd_ne hrq]; exact u1, dqa_re b1 b2 _ _ u2⟩
        | dic ks =>
          obtain ⟨us, u1, u2⟩ := hr'
          exact ⟨us, by rw [upd_ne hrq]; exact u1, Paired.mapP u2 fun _ _ z => ⟨z.1, dq_re b1 b2 _ _ z.2⟩⟩
        | ins C dx fs =>
          obtain ⟨u1, u2⟩ := hr'
          refine ⟨by rw [upd_ne hrq]; exact u1, ?_⟩
          have : dx ≠ q := fun e => by rw [e, hq'] at u2; cases u2
          rw [upd_ne this]
          exact u2
        | tab qq =>
          obtain ⟨ps, u1, u2, u3⟩ := hr'
          refine ⟨ps, by rw [upd_ne hrq]; exact u1, u2, fun pos cv hc => ?_⟩
          obtain ⟨c, e1, e2⟩ := u3 pos cv hc
          obtain ⟨n, hx⟩ := vis_some e2
          have hxq : c ≠ q := fun e => by rw [e, hq'] at hx; cases hx
          exact ⟨c, e1, vis_of (fun z => n (dropO_keys.mpr ⟨z, hxq⟩)) (by rw [upd_ne hxq]; exact hx)⟩
  exact k v _ _ _ ⟨rfl, rfl⟩ st (dq_re b1 b2 _ _ z))
/-! reading it -/
theorem x_dgetK {kvs : List (Int × PyData)} {j : Int} {d : PyData} (ha : EX X a E O (.k kvs)) (hb : EX X b E O (vI j)) (h : dval kvs j = some d) (hs : NoSl b := by exact fun _ _ => rfl) (hu : X.A.units + 64 < cLine := by assumption) : EX X (.Subscript a b pos) E O (.d d) := fun σ H R Q kk => we_of (pe_dget (by omega) WE.pe WE.pe hs) (by
  refine ha σ H R _ fun v H1 r1 O1 ⟨e1, e2⟩ s1 z1 => ?_
  subst e1; subst e2
  refine hb σ H1 (R.step s1) _ fun u H2 r2 O2 ⟨e1, e2⟩ s2 z2 => ?_
  subst e1; subst e2
  obtain rfl := int_of z2
  obtain ⟨q, od, vs, rfl, g1, g2⟩ := s2.sv z1
  have hv := kv_val (k := j) (g2 : KvR _ vs kvs)
  rw [h] at hv
  obtain ⟨v, h3, h4⟩ := hv
  refine ⟨q, v, rfl, ?_, kk _ H2 _ _ ⟨rfl, rfl⟩ (s1.trans s2) h4⟩
  rw [← h3]
  exact .inl ⟨vs, Sum.inl j, .inr ⟨od, vis_sub _ _ _ _ g1⟩, rfl, rfl⟩)
theorem it_keysK {tg : Expr} {kvs : List (Int × PyData)} (ha : EX X a E O (.k kvs)) : IT X tg a E O (kvs.map (·.1)) (fun k => vI k) := ⟨_, pi_keys WE.pe, fun σ H R Q q => by
  refine ha σ H R _ fun v H1 r O1 ⟨e1, e2⟩ s z => ?_
  subst e1; subst e2
  obtain ⟨d, od, vs, rfl, g1, g2⟩ := z
  have hl : vs.length = kvs.length := kv_len (g2 : KvR _ vs kvs)
  refine ⟨d, od, rfl, .inl ⟨vs, vis_sub _ _ _ _ g1, q _ H1 s ⟨fun i O' H' s1 hi => ?_, fun i O' H' x H2 s1 hi y => ?_, fun O' H' s1 => ?_⟩⟩⟩
  · exact ⟨vis_sub _ _ _ _ (s1.vis _ _ g1), by rw [hl]; simpa using hi⟩
  · obtain ⟨rfl, k, u, y1, rfl⟩ := y
    refine ⟨.refl s1.ok, ?_⟩
    have hk := kv_keys (g2 : KvR _ vs kvs)
    have hi' : i < kvs.length := by simpa using hi
    have e3 : (vs.map (·.1))[i]? = some k := by rw [List.getElem?_map, y1]; rfl
    rw [hk, List.getElem?_map, List.getElem?_map, List.getElem?_eq_getElem hi'] at e3
    have e4 : Sum.inl kvs[i].1 = k := Option.some.inj e3
    subst e4
    rw [List.getElem_map]
    exact .int _
  · exact ⟨vis_sub _ _ _ _ (s1.vis _ _ g1), by rw [hl]; simp⟩⟩
/-! sorted(a dict), any number of keys -/
def rSrtD : List V → Hp → VK → Prop := fun vs H Q => ∃ (a : Addr) (kvs : List (Key × V)) (ks : List Int), vs = [.ref a] ∧ Rd H a (.dK kvs) ∧ kvs.map (·.1) = ks.map Sum.inl ∧ ks.length ≤ 4000 ∧ ∀ (ys : List Int) (p : Addr), ys.Perm ks → ys.Pairwise (· ≤ ·) → H p = none → Q (.ref p) (upd H p (.lst (ys.map V.int)))
theorem ints_keys {acc : List Value} {vs : List (Key × Value)} {ks : List Int} (hk : vs.map (·.1) = ks.map Sum.inl) (hl : acc.length = ks.length) (h : ∀ (j : Nat) (v : Value), acc[j]? = some v → ∃ k x, vs[j]? = some (k, x) ∧ keyIs k v = true) : IntsAre acc ks := ints_each hl fun j v e => by
  obtain ⟨k, x, e1, e2⟩ := h j v e
  have hj : j < ks.length := by
    obtain ⟨hj, _⟩ := List.getElem?_eq_some_iff.mp e
    omega
  have e3 : (ks.map Sum.inl)[j]? = some k := by rw [← hk, List.getElem?_map, e1]; rfl
  rw [List.getElem?_map, List.getElem?_eq_getElem hj] at e3
  obtain rfl : Sum.inl ks[j] = k := Option.some.inj e3
  rcases keyIs_shape (show keyIs (Sum.inl ks[j]) v = true from e2) with ⟨i, t, ek, ev⟩ | ⟨z, t, ek, ev⟩
  · obtain rfl : ks[j] = i := Sum.inl.inj ek
    exact ⟨ks[j], t, List.getElem?_eq_getElem hj, ev⟩
  · cases ek
theorem cr_srtD (hc : X.calm = true) : CallR X (.builtin "sorted") rSrtD := by
  intro pins s σ H xs us Q I r ⟨a, kvs, ks, ex, hd, hks, hz, q⟩
  subst ex
  rw [Vals.ref1 r]
  obtain ⟨z, lo, vs, rel, dd⟩ := dk_rd I.hok hd
  obtain ⟨ep, hat⟩ := dd.dictAt
  have hk : vs.map (·.1) = ks.map Sum.inl := rel.keys.symm.trans hks
  have hl : vs.length = ks.length := by simpa using congrArg List.length hk
  refine Calls.call_function_entry kind_sorted plain_sorted entry_sorted (args_sorted1 _) ?_
  unfold Builtin.«sorted»
  refine wpAny_bind (m := checkCount "sorted" 1 1 _) (wpAny_pure (wpAny_bind (PySem.W.kdu_collect (A := X.A.in1) (PySem.W.kdl_dict (knd := mixKind X.prog X.w) (kvs := vs) (ep := ep) lo) (I.ok.hd hc) hat (by rw [hl, sizeLine_eq]; omega) fun h' tk acc kp hacc => ?_)))
  have hal : acc.toList.length = ks.length := by rw [Array.length_toList, hacc.1, hl]
  have hi : IntsAre acc.toList ks := ints_keys hk hal fun j v e => hacc.2 j v (by rw [← Array.getElem?_toList]; exact e)
  have hsz : acc.toList.length ≤ sizeLine := by rw [hal, sizeLine_eq]; omega
  have I1 : Inv X pins σ H { s with heap := h', toks := tk } := I.kept kp
  have g0 : (h'.push (seqObj "list" acc.toList.toArray 0)).get? h'.objs.size = some (seqObj "list" acc.toList.toArray 0) := Heap.get?_push_size _ rfl
  refine wpAny_bind (wpAny_newList ?_ hsz)
  show wpAny _ _ _ _ _ { s with heap := h'.push (seqObj "list" acc.toList.toArray 0), toks := tk }
  refine wpAny_bind (wpAny_holding (wpAny_call_entry slot_list_sort ⟨_, g0, rfl⟩ entry_list_sort (SrtO.list_sort_ord (s := { s with heap := h'.push (seqObj "list" acc.toList.toArray 0), toks := tk }) SrtO.swo_int g0 hsz (fun h2 => SrtO.ints_sortable hi h2) fun out h1 h2 => ⟨_, rfl, ?_⟩) (args_list_sort _)))
  obtain ⟨k1, k2, k3⟩ := SrtO.ints_out hi h1 h2
  obtain ⟨e', he'⟩ := sortedHeap_at (vs := acc.toList) (out := out.toArray) g0
  have hl2 : ((out.map SrtO.iv).map V.int).length ≤ sizeLine := by
    rw [List.length_map, k2.length_eq, sizeLine_eq]
    omega
  refine wpAny_pure ⟨_, rfl, .ref h'.objs.size, upd H h'.objs.size (.lst ((out.map SrtO.iv).map V.int)), I1.laid (t' := tk) (fun b u e => ?_) (Nat.le_refl _) ⟨hl2, out, e', vals_of_ints k1, he'⟩, rfl, q _ _ k2 k3 (I1.hok.fresh (Nat.le_refl _))⟩
  have hlt : b < h'.objs.size := Heap.lt_size e
  rw [sortedHeap_old (Nat.ne_of_lt hlt) (by rw [size_push']; exact Nat.lt_succ_of_lt hlt)]
  exact Heap.get?_push_of_some _ e
theorem x_sortedK {kvs : List (Int × PyData)} {D : List Int} (hm : X.mg "sorted" = none) (ha : EX X a E O (.k kvs)) (hl : kvs.length ≤ 4000) (hD : D.Pairwise (· ≤ ·)) (hP : D.Perm (kvs.map (·.1))) (hg : Gl X "sorted" := by rfl) (hc : X.calm = true := by rfl) (hs : starEach [a] X.env = (false, eval a X.env) :: starEach [] X.env := by rfl) (hpl : (backTo pos (starEach [] X.env)).any (·.1) = false := by rfl) :
    EX X (.Call (.Name "sorted" p) [a] [] pos) E O (vL (D.map .int)) := x_cb1 (cr_srtD hc) PyProof.Rows.boot_sorted (by decide) (by decide) hm ha (fun v H ok hv Q k => by
    obtain ⟨q, od, vs, rfl, h1, h2⟩ := hv
    refine ⟨q, vs, kvs.map (·.1), rfl, .inr ⟨od, vis_sub _ _ _ _ h1⟩, kv_keys h2, by simpa using hl, fun ys p2 w1 w2 hp => ?_⟩
    have e : ys = D := List.Perm.eq_of_pairwise (le := (· ≤ ·)) (fun a b _ _ h1 h2 => Int.le_antisymm h1 h2) w2 hD (w1.trans hP.symm)
    subst e
    have s3 := Stp.laid (o := .lst (ys.map V.int)) ok hp
    exact k _ _ _ _ ⟨rfl, rfl⟩ s3 (.lst (vis_laid ok hp) dpa_ints)) hg hs hpl
end
end Py
namespace Py
open PySem PySem.Spec PyProof.Rows L2
/-! ### t[::-1] -/
section
variable {prog : Program} {w : World} {A : Around} {E : Value → Shared → Prop} {s : Shared}
theorem places_back (n : Nat) : Builtin.Slice.slicePlaces ((n : Int) - 1) (-1) (-1) = n := by
  unfold Builtin.Slice.slicePlaces
  rw [if_neg (by decide)]
  split
  · rw [show (-(-1 : Int)) = 1 from rfl, Int.ediv_one]; omega
  · omega
theorem applied_back {sl : Addr} {vl vu vs : Value} {n : Nat} {Q : Int × Int × Nat → Shared → Prop} (hs : s.heap.IsSliceOf sl vl vu vs) (pl : IsPart vl none) (pu : IsPart vu none) (ps : IsPart vs (some (-1)))
    (h : Q ((n : Int) - 1, -1, n) s) : wpAny (model prog w) A (Builtin.Slice.sliceApplied (.ref sl) (pure (n : Int))) Q E s := by
  obtain ⟨os, hos, hcs, hds⟩ := hs
  unfold Builtin.Slice.sliceApplied Builtin.Slice.sliceFields
  refine wpAny_bind (wpAny_bind (wpAny_field hos hds (x := vl) rfl (wpAny_bind (wpAny_field hos hds (x := vu) rfl (wpAny_bind (wpAny_field hos hds (x := vs) rfl (wpAny_pure ?_)))))))
  refine wpAny_bind (HT.slicePart_ ps ?_)
  show wpAny _ _ (if ((-1 : Int) == 0) = true then _ else _) _ _ s
  rw [if_neg (by decide)]
  refine wpAny_bind (HT.slicePart_ pl (wpAny_bind (HT.slicePart_ pu (wpAny_bind (wpAny_pure ?_)))))
  show wpAny _ _ (pure ((n : Int) - 1, (-1 : Int), Builtin.Slice.slicePlaces ((n : Int) - 1) (-1) (-1))) _ _ s
  rw [places_back]
  exact wpAny_pure h
theorem fm_congr {α β : Type} {f g : α → Option β} : ∀ {l : List α}, (∀ x ∈ l, f x = g x) → l.filterMap f = l.filterMap g
  | [], _ => rfl
  | a :: l, h => by
    rw [List.filterMap_cons, List.filterMap_cons, h a List.mem_cons_self, fm_congr fun x hx => h x (List.mem_cons_of_mem _ hx)]
theorem pick_back (xs : List Value) : ((List.range xs.length).filterMap fun (m : Nat) => xs.toArray[(((xs.length : Int) - 1) + (m : Int) * (-1)).toNat]?) = xs.reverse := by
  have e : ∀ m ∈ List.range xs.length, xs.toArray[(((xs.length : Int) - 1) + (m : Int) * (-1)).toNat]? = xs.reverse[m]? := fun m hm => by
    have hm' := List.mem_range.mp hm
    rw [List.getElem?_toArray, List.getElem?_reverse hm', show (((xs.length : Int) - 1) + (m : Int) * (-1)).toNat = xs.length - 1 - m by omega]
  rw [fm_congr e]
  have key : ∀ l : List Value, (List.range l.length).filterMap (fun m => l[m]?) = l := by
    intro l
    have h1 : (List.range l.length).map (fun m => l[m]?) = l.map some := by
      apply List.ext_getElem
      · simp
      · intro i h1 h2
        have : i < l.length := by simpa using h1
        rw [List.getElem_map, List.getElem_range, List.getElem_map, List.getElem?_eq_getElem this]
    have h2 : (List.range l.length).filterMap (fun m => l[m]?) = ((List.range l.length).map (fun m => l[m]?)).filterMap id := by rw [List.filterMap_map]; rfl
    rw [h2, h1, List.filterMap_map]
    show l.filterMap (fun x => some x) = l
    exact List.filterMap_some
  have := key xs.reverse
  rw [List.length_reverse] at this
  exact this
theorem get_back {t sl : Addr} {its : List Value} {vl vu vs : Value} {Q : Value → Shared → Prop} (ht : IsTup s.heap t its.toArray) (hs : s.heap.IsSliceOf sl vl vu vs) (pl : IsPart vl none) (pu : IsPart vu none) (ps : IsPart vs (some (-1)))
    (h : Q (.ref s.heap.objs.size) { s with heap := s.heap.push { cls := .type "tuple", data := .seq its.reverse.toArray } }) (hz : its.length ≤ sizeLine) : wpAny (model prog w) A (getItem (.ref t) (.ref sl)) Q E s := by
  obtain ⟨os, hos, hcs, hds⟩ := id hs
  have tS : s.TypeIs (.ref sl) "slice" := ⟨os, hos, hcs⟩
  have hok : sizeOk (.seq its.reverse.toArray) := by
    show its.reverse.toArray.size ≤ sizeLine
    rw [List.size_toArray, List.length_reverse]
    exact hz
  unfold getItem
  try with_reducible refine wpAny_holding ?_
  first | refine wpAny_bind (wpAny_pure ?_) | skip
  refine wpAny_bind (wpAny_sequenceKey ht.typeIs (by decide) ?_)
  refine wpAny_bind (wpAny_callSpecial?_slot (name := Str.ofString "__getitem__") ht.typeIs slot_tuple_getitem (wpAny_call_entry slot_tuple_getitem ht.typeIs entry_tuple_getitem ?_ (args_tuple_getitem _ _)))
  show wpAny _ _ (Builtin.Tuple.tupleItemsOf (.ref t) >>= _) _ _ s
  refine wpAny_bind (tupleItemsOf_ ht (wpAny_bind (wpAny_typeOf tS ?_)))
  rw [if_pos (by decide)]
  refine wpAny_bind (applied_back (n := its.toArray.size) hs pl pu ps ?_)
  show wpAny _ _ (if ((((its.toArray.size : Nat) : Int) - 1 == 0) && ((-1 : Int) == 1) && (its.toArray.size == its.toArray.size)) = true then _ else _) _ _ s
  rw [if_neg (by simp)]
  have e := pick_back its
  rw [List.size_toArray]
  rw [e]
  first
    | exact wpAny_bind (m := Builtin.Tuple.tupleExact _) (wpAny_newObj_type (wpAny_pure ⟨_, rfl, wpAny_pure h⟩) hok)
    | exact wpAny_bind (wpAny_bind (m := Builtin.Tuple.tupleExact _) (wpAny_newObj_type (wpAny_pure ⟨_, rfl, wpAny_pure h⟩) hok))
end
section
variable {X : Cx} {a b c e o : Expr} {es : List Expr} {E : En} {O : Own} {pos p p' pos' : Pos}
def tRevT (K : PySem.W.Frag) (te : TE) : TE := fun σ H Q => te σ H fun x H1 => ∃ a xs, x = .ref a ∧ SqT K H1 a xs ∧ ∀ q, H1 q = none → Q (.ref q) (upd H1 q (.tup xs.reverse))
theorem pe_revT {te : TE} {k : Nat} {p1 p2 p3 : Pos} (he : PE X e te) : PE X (.Subscript e (.Slice none none (some (.UnaryOp .USub (.Constant (.int 1) k p1) p2)) p3) pos) (tRevT X.K te) := by
  refine ⟨fun pins s σ H Q I h => Subscript_ (thn (he.run pins s σ H _ I h) ?_)⟩
  rintro v s1 ⟨x, H1, I1, r1, a, xs, rfl, hx, q⟩
  cases r1
  have hst : PO X (some (.UnaryOp .USub (.Constant (.int 1) k p1) p2)) (tPart (tUn (rU fun i => .int (-i)) (tC (.int 1)))) := po_some (pe_un un_neg pe_int)
  refine wpAny_Slice (thn (po_none.run pins s1 σ H1 (fun o H2 => o = none ∧ H2 = H1) I1 ⟨rfl, rfl⟩) ?_)
  rintro vl s2 ⟨l, H2, I2, pl, rfl, rfl⟩
  refine thn (po_none.run pins s2 σ H2 (fun o H3 => o = none ∧ H3 = H2) I2 ⟨rfl, rfl⟩) ?_
  rintro vu s3 ⟨u, H3, I3, pu, rfl, rfl⟩
  refine thn (hst.run pins s3 σ H3 (fun o H4 => o = some (-1) ∧ H4 = H3) I3 ⟨1, rfl, -1, rfl, rfl, rfl⟩) ?_
  rintro vs s4 ⟨o, H4, I4, ps, rfl, rfl⟩
  have I5 : Inv X pins σ H4 { s4 with heap := s4.heap.push { cls := .type "slice", data := .fields #[vl, vu, vs] } } := I4.kept (t' := s4.toks) fun b ob q => Heap.get?_push_of_some _ q
  obtain ⟨its, r, ht, hz⟩ := I5.tuple hx
  have hlen := r.length
  show wpAny (model X.prog X.w) X.A (subscriptTail e (.Slice none none (some (.UnaryOp .USub (.Constant (.int 1) k p1) p2)) p3) (.ref a) (.ref s4.heap.objs.size)) (EP X pins σ Q) X.xe _
  refine tail_any (ops := [.ref a, .ref s4.heap.objs.size]) ht.typeIs slot_tuple_getitem.lookup ?_ (by with_unfolding_all rfl)
  refine get_back ht (Heap.IsSliceOf.new _ vl vu vs) pl pu ps ?_ (by omega)
  refine ⟨.ref _, _, I5.laid (t' := s4.toks) (o := .tup xs.reverse) (fun b ob q => Heap.get?_push_of_some _ q) (Nat.le_refl _) ?_, rfl, q _ (I5.hok.fresh (Nat.le_refl _))⟩
  exact ⟨by rw [List.length_reverse]; exact hz, its.reverse, r.reverse, _, Heap.get?_push_size _ rfl, rfl, _, rfl⟩
theorem x_revT {ds : List PyData} {k : Nat} {p1 p2 p3 : Pos} (ha : EX X a E O (vT ds)) : EX X (.Subscript a (.Slice none none (some (.UnaryOp .USub (.Constant (.int 1) k p1) p2)) p3) pos) E O (vT ds.reverse) := fun σ H R Q kk => we_of (pe_revT WE.pe) (by
  refine ha σ H R _ fun v H1 r O1 ⟨e1, e2⟩ s1 z => ?_
  subst e1; subst e2
  obtain ⟨q, vs, rfl, h1, h2⟩ := tup_of z
  refine ⟨q, vs, rfl, .inl (rd_sub (vis_sub _ _) h1), fun q' hq => ?_⟩
  have s2 := Stp.laid (o := .tup vs.reverse) s1.ok hq
  exact kk _ _ _ _ ⟨rfl, rfl⟩ (s1.trans s2) (.tup (.inl (vis_laid s1.ok hq)) (dpa_rev (dpAll_sub s2.vis _ _ h2))))
end
end Py
namespace Py
open PySem PySem.Spec PyProof.Rows L2
section
variable {X : Cx} {a b e : Expr} {es : List Expr} {E : En} {O : Own} {pos p pos' p' : Pos}
/-! ### dict(an exact tuple of pairs), read at once -/
def rDicT (K : PySem.W.Frag) : List V → Hp → VK → Prop := fun xs H Q => ∃ (a : Addr) (o : Obj) (ps : List Addr) (kvs : List (Key × V)), xs = [.ref a] ∧ H a = some (.frz o (.tup (ps.map V.ref))) ∧ o.dict = none ∧ Paired (fun p kv => SqT K H p [kV kv.1, kv.2]) ps kvs ∧ ∀ p, H p = none → Q (.ref p) (upd H p (.dK (mergeK [] kvs)))
theorem cr_dicT (hc : X.calm = true) : CallR X (.type "dict") (rDicT X.K) := by
  intro pins s σ H xs us Q I r ⟨a, o, ps, kvs, ex, hq, hd, hp, q⟩
  subst ex
  obtain ⟨u, rfl, rx⟩ := vals1 r
  cases rx
  obtain ⟨g1, hz, its, rv, o', g2, hcl, n, hdat⟩ := I.hok a _ hq
  rw [g1] at g2
  cases g2
  have ei := refs_at rv
  subst ei
  rw [List.length_map] at hz
  obtain ⟨prs, rel, hl, hpr⟩ := L2.pairs_of I hp
  let Ts : Nat → Addr := fun j => ps.getD j 0
  have hex : ∀ (j : Nat) (q : Key × Value), prs[j]? = some q → ∃ u : Value, IsTup s.heap (Ts j) #[u, q.2] ∧ keyIs q.1 u = true ∧ ps[j]? = some (Ts j) := fun j q e => by
    obtain ⟨b, u, e1, e2, e3⟩ := hpr j q e
    have eb : Ts j = b := by show ps.getD j 0 = b; rw [List.getD_eq_getElem?_getD, e1]; rfl
    exact ⟨u, by rw [eb]; exact e2, e3, by rw [eb]; exact e1⟩
  obtain ⟨ks, hk1, hk2⟩ : ∃ ks : List (Value × Value), ks.length = prs.length ∧ ∀ (j : Nat) (q : Key × Value), prs[j]? = some q → ∃ u : Value, ks[j]? = some (u, q.2) ∧ IsTup s.heap (Ts j) #[u, q.2] ∧ keyIs q.1 u = true := by
    have hex' : ∀ j : Nat, ∃ u : Value, ∀ q : Key × Value, prs[j]? = some q → IsTup s.heap (Ts j) #[u, q.2] ∧ keyIs q.1 u = true := fun j => by
      cases e : prs[j]? with
      | none => exact ⟨.none, fun q h => nomatch h⟩
      | some q0 =>
        obtain ⟨u, z1, z2, _⟩ := hex j q0 e
        exact ⟨u, fun q h => by cases h; exact ⟨z1, z2⟩⟩
    obtain ⟨f, hf⟩ := Classical.axiomOfChoice hex'
    refine ⟨(List.range prs.length).map fun j => (f j, (prs[j]?.map (·.2)).getD .none), by simp, fun j q e => ⟨f j, ?_, hf j q e⟩⟩
    rw [List.getElem?_map, List.getElem?_range (List.getElem?_eq_some_iff.mp e).1]
    show some (f j, (prs[j]?.map (·.2)).getD .none) = _
    rw [e]
    rfl
  refine PySem.call_dict_pairs (knd := mixKind X.prog X.w) (kvs := prs) (PySem.PairArg.tuple a (ps.map Value.ref).toArray Ts ks) (I.ok.hd hc) ⟨⟨o, n, g1, hcl, hd, hdat⟩, by simp [hk1, hl], fun j k v e => ?_⟩ ⟨by rw [hk1], fun j k v e => ?_⟩ (by rw [hk1, hl]; exact hz) fun h' tk hd' k => ?_
  · have hj : j < prs.length := by rw [← hk1]; exact (List.getElem?_eq_some_iff.mp e).1
    obtain ⟨u, e1, e2, e3⟩ := hk2 j prs[j] (List.getElem?_eq_getElem hj)
    rw [e1] at e
    cases e
    obtain ⟨_, _, _, e4⟩ := hex j prs[j] (List.getElem?_eq_getElem hj)
    exact ⟨by simp [e4], .inl e2⟩
  · have e' : ks[j]? = some (k, v) := e
    have hj : j < prs.length := by rw [← hk1]; exact (List.getElem?_eq_some_iff.mp e').1
    obtain ⟨u, e1, e2, e3⟩ := hk2 j prs[j] (List.getElem?_eq_getElem hj)
    rw [e1] at e'
    cases e'
    exact ⟨prs[j].1, List.getElem?_eq_getElem hj, e3⟩
  · have hlen : (mergeK [] kvs).length ≤ sizeLine := by
      have z1 := length_mergeK kvs []
      have z2 := rel.length
      simp only [List.length_nil] at z1
      omega
    exact ⟨.ref s.heap.objs.size, upd H s.heap.objs.size (.dK (mergeK [] kvs)), I.laid (t' := tk) (fun b o e => k b o (by simp) e) (Nat.le_refl _) (show ObjOk X.prog X.w _ _ _ (.dK (mergeK [] kvs)) from ⟨hlen, beq_eq_false_iff_ne.mpr (Nat.ne_of_gt I.big), merged [] prs, KV.merge rel .nil, hd'⟩), rfl, q _ (I.hok.fresh (Nat.le_refl _))⟩
theorem g_dictT {kvs : List (Int × PyData)} (hm : X.mg "dict" = none) (ha : EX X a E O (.t (kvs.map fun kv => .tuple [.int kv.1, kv.2]))) (hg : Gl X "dict" := by rfl) (hc : X.calm = true := by rfl) (hs : starEach [a] X.env = (false, eval a X.env) :: starEach [] X.env := by rfl) (hpl : (backTo pos (starEach [] X.env)).any (·.1) = false := by rfl) : EG X (.Call (.Name "dict" p) [a] [] pos) E O fun r O' => ∃ q, r = .v (.ref q) ∧ O' = (q, .dic (dmerge [] kvs)) :: O ∧ q ∉ O.map (·.1) := fun σ H R Q k => we_of (pe_callTy (cr_dicT hc) hg hm PyProof.Rows.boot_dict WA.pa (by decide) (by decide) hs hpl) (by
  refine (a_cons ha a_nil hs : EA X [a] E O [_]) σ H R _ fun us H1 rs O1 ⟨e1, e2⟩ s1 z1 => ?_
  subst e1; subst e2
  cases z1 with
  | cons z1 z2 =>
    cases z2
    obtain ⟨l, ob, vs, rfl, h1, hob, h2⟩ := z1
    have key : ∀ {vs : List V} {kvs : List (Int × PyData)}, DqAll (vis O1 H1) vs (kvs.map fun kv => .tuple [.int kv.1, kv.2]) → ∃ (ps : List Addr) (ks : List (Key × V)), vs = ps.map V.ref ∧ Paired (fun p kv => Rd H1 p (.tup [kV kv.1, kv.2])) ps ks ∧ KvR (vis O1 H1) ks kvs := by
      intro vs kvs
      induction kvs generalizing vs with
      | nil =>
        intro h
        cases h
        exact ⟨[], [], rfl, .nil, .nil⟩
      | cons kv r ih =>
        intro h
        cases h with
        | cons h3 h4 =>
          obtain ⟨ps, ks, e1, e2, e3⟩ := ih h4
          cases h3 with
          | tup h5 h6 =>
            cases h6 with
            | cons h6 h7 =>
              cases h6
              cases h7 with
              | cons h7 h8 =>
                cases h8
                refine ⟨_ :: ps, (Sum.inl kv.1, _) :: ks, by rw [e1]; rfl, .cons (rd_sub (vis_sub _ _) h5) e2, .cons ⟨rfl, h7⟩ e3⟩
    obtain ⟨ps, ks, e1, e2, e3⟩ := key h2
    subst e1
    refine ⟨l, ob, ps, ks, rfl, vis_sub _ _ _ _ h1, hob, Paired.mapP e2 fun _ _ z => .inl z, fun q hq => ?_⟩
    have s2 := Stp.own (o := .dic (dmerge [] kvs)) (ho := .dK (mergeK [] ks)) s1.ok hq ⟨_, upd_same, by
      refine kv_merge (Paired.mapP e3 fun _ _ z => ⟨z.1, dp_sub (fun x u hx => ?_) _ _ z.2⟩) .nil
      obtain ⟨n, hx⟩ := vis_some hx
      refine vis_of (fun hm => ?_) (by rw [upd_ne (ne_of_none hx hq)]; exact hx)
      rcases List.mem_cons.mp hm with hm | hm
      · rw [hm, hq] at hx
        cases hx
      · exact n hm⟩
    exact k _ _ _ _ ⟨q, rfl, rfl, s1.ok.fresh hq⟩ (s1.trans s2) rfl)
/-- what a new dict holds -/
theorem x_dnew {kvs : List (Int × PyData)} {k : Int} {d : PyData} (ha : EG X a E O fun r O' => ∃ q, r = .v (.ref q) ∧ O' = (q, .dic kvs) :: O ∧ q ∉ O.map (·.1)) (hb : ∀ O', (∀ q ∈ O, q ∈ O') → EX X b E O' (vI k)) (h : dval kvs k = some d) (hs : NoSl b := by exact fun _ _ => rfl) (hu : X.A.units + 64 < cLine := by assumption) : EX X (.Subscript a b pos) E O (.d d) := fun σ H R Q kk => we_of (pe_dget (by omega) WE.pe WE.pe hs) (by
  refine ha σ H R _ fun v H1 r1 O1 ⟨q, e1, e2, hq⟩ s1 z1 => ?_
  subst e1; subst e2
  obtain rfl : v = .ref q := z1
  refine hb _ (fun _ z => List.mem_cons_of_mem _ z) σ H1 (R.step s1) _ fun v H2 r2 O2 ⟨e1, e2⟩ s2 z2 => ?_
  subst e1; subst e2
  obtain rfl := int_of z2
  obtain ⟨vs, h1, h2⟩ := s2.ok.is (q, .dic kvs) List.mem_cons_self
  have hv := kv_val (k := k) h2
  rw [h] at hv
  obtain ⟨v, h3, h4⟩ := hv
  have s3 := Stp.pop s2.ok
  refine ⟨q, v, rfl, ?_, kk _ H2 _ _ ⟨rfl, rfl⟩ ((s1.trans s2).trans s3) (s3.sv (r := .d d) h4)⟩
  rw [← h3]
  exact DGet.k (k := Sum.inl k) h1)
end
end Py

/-! ### d.items() walked by one name: the iterator may keep a tuple, alive or not -/
namespace Py
open PySem PySem.W PySem.Calls PySem.Spec PyProof.Rows PyProof.V L2
section
variable {prog : Program} {w : World} {κ : Type} [DecidableEq κ] {knd : KeyKind prog w κ} {A : Around} {E : Value → Shared → Prop}
abbrev tupOb (x y : Value) : Obj := { cls := .type "tuple", data := .seq #[x, y] }
theorem next_keeps {it d a : Addr} {f : Bool} {i ep : Nat} {kvs : List (κ × Value)} {k : κ} {v ok ov : Value} {Q : Option Value → Shared → Prop} {s : Shared} (hit : KdxIt s.heap it d i kvs.length ep ok ov a f) (hai : a ≠ it)
    (hm : s.heap.DictAt knd d kvs ep) (hx : kvs[i]? = some (k, v))
    (hQ : ∀ key h', knd.is k key = true → (∃ ok' ov' a' f', a' ≠ it ∧ KdxIt h' it d (i + 1) kvs.length ep ok' ov' a' f') → h'.get? s.heap.objs.size = some (tupOb key v) → h'.objs.size = s.heap.objs.size + 1 →
      (∀ b o, b ≠ it → s.heap.get? b = some o → h'.get? b = some o) → Q (some (.ref s.heap.objs.size)) { s with heap := h' }) : wpAny (model prog w) A (pyNext (.ref it)) Q E s := by
  obtain ⟨H0, g0, d0, t0, o0⟩ := s
  obtain ⟨od, es, od1, od2, od3, od4, od5, od6⟩ := id hm
  have ty : Shared.TypeIs ⟨H0, g0, d0, t0, o0⟩ (.ref it) "dict_itemiterator" := ⟨_, hit, rfl⟩
  have size : es.size = kvs.length := by rw [← od5.length]; simp
  have lti : i < kvs.length := (List.getElem?_eq_some_iff.mp hx).1
  have lte : i < es.size := by omega
  obtain ⟨key1, val1⟩ := od5.get? (e := es[i]) (by simp [lte]) hx
  have own1 : Builtin.Dict_items.ownsTuple "dict_itemiterator" = true := by decide
  unfold pyNext
  refine wpAny_bind (wpAny_attempt (wpAny_callSpecial?_slot (name := Str.ofString "__next__") ty PySem.F.slot_dict_itemiterator_next (wpAny_call_entry PySem.F.slot_dict_itemiterator_next ty PySem.F.entry_dict_itemiterator_next ?_ (PySem.F.args_dict_itemiterator_next_1 _))))
  refine wpAny_bind (wpAny_pure (wpAny_bind (wpAny_bind ?_)))
  first | refine wpAny_bind (wpAny_typeNameOfWhole_itemiter ty (wpAny_pure (wpAny_bind (wpAny_fieldsOf hit rfl ?_)))) | refine wpAny_bind (wpAny_typeNameOf_itemiter ty (wpAny_pure (wpAny_bind (wpAny_fieldsOf hit rfl ?_))))
  simp only [own1, if_true]
  have nd : ¬ ((Value.ref d == Value.none) = true) := Bool.false_ne_true
  show wpAny _ _ (ite ((Value.ref d == Value.none) = true) _ _) _ _ _
  rw [if_neg nd]
  refine wpAny_bind (wpAny_pure (wpAny_bind (wpAny_dictEntries od1 od3 ?_)))
  rw [if_neg (by rw [size]; simp)]
  refine wpAny_bind (wpAny_pure (wpAny_bind (wpAny_dictEpoch od1 od3 ?_)))
  rw [if_neg (by simp)]; refine wpAny_pure ?_
  simp only [show ¬ ((i : Int) < 0) from by omega, if_false, Int.toNat_natCast, Array.getElem?_eq_getElem lte]
  refine wpAny_bind ?_
  first | refine wpAny_bind (wpAny_typeNameOfWhole_itemiter ty (wpAny_pure (wpAny_bind (wpAny_isOneOf_itemiter ty ?_)))) | refine wpAny_bind (wpAny_typeNameOf_itemiter ty (wpAny_pure (wpAny_bind (wpAny_isOneOf_itemiter ty ?_))))
  show wpAny _ _ (setField (.ref it) 3 (rawInt ((i : Int) + 1)) >>= _) _ _ ⟨H0, g0, d0, t0, o0⟩
  refine wpAny_bind (wpAny_setField_rec hit (by simp) fun H1 e1 k1 => ?_)
  have k1' : Heap.SameBut it H0 H1 := k1
  have e1' : KdxIt H1 it d (i + 1) kvs.length ep ok ov a f := by
    have e : ((i + 1 : Nat) : Int) = (i : Int) + 1 := by omega
    unfold KdxIt; rw [e]; simpa [rawInt] using e1
  have ty1 : Shared.TypeIs ⟨H1, g0, d0, t0, o0⟩ (.ref it) "dict_itemiterator" := ⟨_, e1', rfl⟩
  refine wpAny_bind (wpAny_holding (wpAny_bind (wpAny_isOneOf_itemiter ty1 (wpAny_bind (wpAny_isOneOf_itemiter ty1 ?_)))))
  show wpAny _ _ (Builtin.Dict_items.pairFromOwner (.ref it) 6 es[i].key es[i].val) _ _ ⟨H1, g0, d0, t0, o0⟩
  unfold Builtin.Dict_items.pairFromOwner
  refine wpAny_bind (wpAny_newTuple ?_)
  have z1 : H1.objs.size = H0.objs.size := k1'.1
  have lit : it < H0.objs.size := Heap.lt_size hit
  obtain ⟨H2, hH2⟩ : ∃ H2, H1.push (tupOb es[i].key es[i].val) = H2 := ⟨_, rfl⟩
  have e2 : KdxIt H2 it d (i + 1) kvs.length ep ok ov a f := by rw [← hH2]; exact Heap.get?_push_of_some _ e1'
  have t2 : H2.get? H0.objs.size = some (tupOb es[i].key es[i].val) := by rw [← hH2, ← z1]; exact Heap.get?_push_size _ rfl
  have s2 : H2.objs.size = H0.objs.size + 1 := by rw [← hH2, Heap.size_push, z1]
  have k2 : ∀ b o, b ≠ it → H0.get? b = some o → H2.get? b = some o := fun b o hb e => by rw [← hH2]; exact Heap.get?_push_of_some _ (k1'.extBut b o hb e)
  have last : ∀ (H3 : Heap), (∃ ok' ov' a' f', a' ≠ it ∧ KdxIt H3 it d (i + 1) kvs.length ep ok' ov' a' f') → Heap.SameBut it H2 H3 → Q (some (.ref H0.objs.size)) ⟨H3, g0, d0, t0, o0⟩ := fun H3 q1 q2 =>
    hQ es[i].key H3 key1 q1 (by rw [← val1]; exact q2.extBut _ _ (Nat.ne_of_gt lit) t2) (q2.1.trans s2) fun b o hb e => q2.extBut b o hb (k2 b o hb e)
  rw [z1]
  show wpAny _ _ (Builtin.Dict_items.ownedTupleIsFree (.ref it) >>= _) _ _ ⟨H1.push (tupOb es[i].key es[i].val), g0, d0, t0, o0⟩
  rw [hH2]
  refine wpAny_bind ?_
  unfold Builtin.Dict_items.ownedTupleIsFree
  refine wpAny_bind (wpAny_field e2 rfl (x := rawInt a) rfl ?_)
  show wpAny _ _ (loadIfAlive ((a : Int).toNat) >>= _) _ _ _
  rw [Int.toNat_natCast]
  cases al : H2.get? a with
  | some oa =>
    refine wpAny_bind (kdx_alive al ?_)
    simp only [Option.isNone_some, Bool.false_eq_true, if_false]
    refine wpAny_bind (wpAny_field e2 rfl (x := .bool f) rfl ?_)
    cases f with
    | true =>
      rw [if_neg (by decide)]
      refine wpAny_pure ?_
      simp only [Bool.false_eq_true, if_false]
      exact wpAny_pure (wpAny_pure ⟨_, rfl, wpAny_pure (last H2 ⟨_, _, _, _, hai, e2⟩ (.refl _ _))⟩)
    | false =>
      rw [if_pos (by decide)]
      refine wpAny_bind (wpAny_setField_rec e2 (by simp) fun H3 e3 k3 => wpAny_pure ?_)
      simp only [Bool.false_eq_true, if_false]
      exact wpAny_pure (wpAny_pure ⟨_, rfl, wpAny_pure (last H3 ⟨ok, ov, a, true, hai, e3⟩ k3)⟩)
  | none =>
    have dead : ∀ {Q' : Option Obj → Shared → Prop} {A' : Around} {E' : Value → Shared → Prop}, Q' none ⟨H2, g0, d0, t0, o0⟩ → wpAny (model prog w) A' (loadIfAlive a) Q' E' ⟨H2, g0, d0, t0, o0⟩ := fun {Q' A' E'} q => by
      have q' : Q' (H2.get? a) ⟨H2, g0, d0, t0, o0⟩ := by rw [al]; exact q
      exact fun _ _ _ => q'
    refine wpAny_bind (dead ?_)
    simp only [Option.isNone_none, if_true]
    refine wpAny_pure ?_
    simp only [if_true]
    refine wpAny_bind (wpAny_field e2 rfl (x := ok) rfl (wpAny_bind (wpAny_field e2 rfl (x := ov) rfl ?_)))
    refine wpAny_bind (wpAny_setField_rec e2 (by simp) fun H3 e3 k3 => ?_)
    have e3' : KdxIt H3 it d (i + 1) kvs.length ep es[i].key ov a f := e3
    refine wpAny_bind (wpAny_setField_rec e3' (by simp) fun H4 e4 k4 => ?_)
    have e4' : KdxIt H4 it d (i + 1) kvs.length ep es[i].key es[i].val a f := e4
    refine wpAny_bind (wpAny_setField_rec e4' (by simp) fun H5 e5 k5 => ?_)
    have e5' : KdxIt H5 it d (i + 1) kvs.length ep es[i].key es[i].val H0.objs.size f := e5
    refine wpAny_bind (wpAny_setField_rec e5' (by simp) fun H6 e6 k6 => ?_)
    have all : Heap.SameBut it H2 H6 := ⟨k6.1.trans (k5.1.trans (k4.1.trans k3.1)), fun b hb => ((k6.2 b hb).trans (k5.2 b hb)).trans ((k4.2 b hb).trans (k3.2 b hb))⟩
    exact wpAny_bind (wpAny_letGo (wpAny_pure (wpAny_pure ⟨_, rfl, wpAny_pure (last H6 ⟨es[i].key, es[i].val, H0.objs.size, false, Nat.ne_of_gt lit, e6⟩ all)⟩)))
end
end Py

namespace Py
open PySem PySem.W PySem.Calls PySem.Spec PyProof.Rows L2
theorem paired_get {α β : Type} {F : α → β → Prop} : ∀ {l : List α} {r : List β}, Paired F l r → ∀ {i : Nat} {x : α}, l[i]? = some x → ∃ y, r[i]? = some y ∧ F x y
  | _, _, .nil, i, x, e => by simp at e
  | _, _, .cons h t, 0, x, e => by
    obtain rfl := Option.some.inj e
    exact ⟨_, rfl, h⟩
  | _, _, .cons h t, i + 1, x, e => paired_get t (i := i) (by simpa using e)
def ItSt (h : Heap) (it d : Addr) (i n ep : Nat) : Prop := (∃ ok ov, IsItemIter h it d i n ep ok ov) ∨ ∃ ok ov a f, a ≠ it ∧ KdxIt h it d i n ep ok ov a f
section
variable {P : Program} {w : World} {K : PySem.W.Frag} {d : Addr} {o : Obj} {es : Array DictEntry} {ep : Nat}
theorem turn_itemsN {kvs : List (Key × V)} {x : Str} {tpos : Pos} (it : Addr) (hod : o.data = .dict es ep) : Turn P w K (.Name x tpos) (Iti d o kvs) [it] it (fun i h => ItSt h it d i kvs.length ep) where
  mem := by simp
  obj := fun i h st b hb => by
    rw [List.mem_singleton] at hb
    subst hb
    rcases st with ⟨ok, ov, e⟩ | ⟨ok, ov, a, f, _, e⟩ <;> exact ⟨_, e, fun v z => nomatch z⟩
  keep := fun i h h' st k => st.elim (fun ⟨ok, ov, e⟩ => .inl ⟨ok, ov, k it List.mem_cons_self _ e⟩) fun ⟨ok, ov, a, f, n, e⟩ => .inr ⟨ok, ov, a, f, n, k it List.mem_cons_self _ e⟩
  item := by
    intro X eP ew eK hc i pins s σ H E I hf st ⟨hd, hi⟩
    subst eP ew eK
    obtain ⟨hs, hgd, hx, es', ep', vs, hdt, hsz, kv, hm⟩ := I.frzK hd
    obtain ⟨rfl, rfl⟩ := dict_ep hod hdt
    have hkv : kvs[i]? = some (kvs[i].1, kvs[i].2) := List.getElem?_eq_getElem hi
    obtain ⟨u, hu, ru⟩ := kv_get kv hkv
    have hl : kvs.length = vs.length := Paired.length kv
    rw [hl] at st
    have lit : it < s.heap.objs.size := by rcases st with ⟨_, _, e⟩ | ⟨_, _, _, _, _, e⟩ <;> exact Heap.lt_size e
    have fin : ∀ (key : Value) (h' : Heap), (mixKind X.prog X.w).is kvs[i].1 key = true → ItSt h' it d (i + 1) vs.length ep' → h'.get? s.heap.objs.size = some (tupOb key u) → h'.objs.size = s.heap.objs.size + 1 →
        (∀ b o, b ≠ it → s.heap.get? b = some o → h'.get? b = some o) → ∃ u', some (Value.ref s.heap.objs.size) = some u' ∧ wpAny (model X.prog X.w) X.A (letOwnedTupleGo (.Name x tpos) (.ref it) u') (fun _ s2 => ∃ y H', Inv X pins σ H' s2 ∧ RelV y u' ∧ (Iti d o kvs).yld i H y H' ∧ ItSt s2.heap it d (i + 1) kvs.length ep' ∧ ∀ b ∈ [it], H' b = none) E { s with heap := h' } := by
      intro key h' hkey st' hT hz hk
      have new : ObjOk X.prog X.w (upd H s.heap.objs.size (.tup [kV kvs[i].1, kvs[i].2])) h' s.heap.objs.size (.tup [kV kvs[i].1, kvs[i].2]) :=
        ⟨Nat.le_trans (show 2 ≤ 100000 by decide) (by decide), [key, u], .cons (relV_key hkey) (.cons ru .nil), _, hT, rfl, _, rfl⟩
      have I1 := I.turnedNew (t' := s.toks) (ch := [it]) (fun b ob hb e => hk b ob (fun z => hb (by rw [z]; exact List.mem_cons_self)) e) hf (Nat.le_refl _) new
      refine ⟨_, rfl, wpAny_pure ⟨.ref s.heap.objs.size, _, I1, rfl, ⟨_, _, _, hkv, rfl, I.hok.fresh (Nat.le_refl _), rfl⟩, by rw [hl]; exact st', fun b hb => ?_⟩⟩
      rw [List.mem_singleton] at hb
      rw [hb, upd_ne (Nat.ne_of_lt lit)]
      exact (hf it List.mem_cons_self).1
    rcases st with ⟨ok, ov, e⟩ | ⟨ok, ov, a, f, na, e⟩
    · exact wpAny_pyNext_items_item e hm hu fun key h' h1 h2 h3 h4 h5 => fin key h' h1 (.inr ⟨_, _, _, _, Nat.ne_of_gt lit, h2⟩) h3 h4 h5
    · exact next_keeps e na hm hu fun key h' h1 ⟨ok', ov', a', f', h2, h2'⟩ h3 h4 h5 => fin key h' h1 (.inr ⟨ok', ov', a', f', h2, h2'⟩) h3 h4 h5
  done := by
    intro X eP ew eK hc i pins s σ H E I hf st ⟨hd, hi⟩
    subst eP ew eK
    obtain ⟨f0, f1, f2, f3, f4, f5⟩ := hf it List.mem_cons_self
    obtain ⟨hs, hgd, hx, es', ep', vs, hdt, hsz, kv, hm⟩ := I.frzK hd
    obtain ⟨rfl, rfl⟩ := dict_ep hod hdt
    have hl : kvs.length = vs.length := Paired.length kv
    rw [hl] at st
    rcases st with ⟨ok, ov, e⟩ | ⟨ok, ov, a, f, na, e⟩
    · exact wpAny_pyNext_items_end (I.ok.hd hc) e hm (List.getElem?_eq_none (by omega)) fun h' eb => ⟨rfl, I.turned (t' := s.toks) eb f0 f1 f3 f4 f5⟩
    · exact kdx_end_out (I.ok.hd hc) e hm (List.getElem?_eq_none (by omega)) fun h' eb => ⟨rfl, I.turned (t' := s.toks) eb f0 f1 f3 f4 f5⟩
  self := fun A i s Q E st h => by
    have ty : s.TypeIs (.ref it) "dict_itemiterator" := by rcases st with ⟨_, _, e⟩ | ⟨_, _, _, _, _, e⟩ <;> exact ⟨_, e, rfl⟩
    refine wpAny_pyIter_slot ty PySem.F.slot_dict_itemiterator_iter (wpAny_call_entry PySem.F.slot_dict_itemiterator_iter ty kcp_entry ?_ (PySem.F.args_dict_itemiterator_iter_1 _))
    show wpAny _ A.in1 (ret (.ref it)) _ _ s
    exact wpAny_pure ⟨_, rfl, "dict_itemiterator", _, ty, PySem.F.slot_dict_itemiterator_next.lookup, h⟩
end
section
variable {X : Cx} {a b e : Expr} {E : En} {O : Own} {apos cpos tpos : Pos} {td : TE}
theorem pi_itemsN {x : Str} (he : PE X e td) (hbase : attributeBase e "items" X.env (eval e X.env) = eval e X.env := by rfl) (hline : (apos.endLine == cpos.line) = true := by rfl) : PI X (.Name x tpos) (.Call (.Attribute e "items" apos) [] [] cpos) (iItems td) := by
  refine ⟨fun pins s σ H R I h => wpAny_Call_method (T := "dict") (id := "dict.items") hbase rfl hline PySem.F.plainAttrs_dict PySem.F.slot_dict_items PySem.F.type_dict_items (thn (he.run pins s σ H _ I h) fun u s1 ⟨y, H1, I1, ry, d, o, kvs, ey, hd, q⟩ => ?_)⟩
  subst ey
  obtain rfl : u = Value.ref d := ry
  obtain ⟨hs, hgd, hx, es, ep, vs, hdt, hsz, kv, hm⟩ := I1.frzK hd
  have hl : kvs.length = vs.length := Paired.length kv
  let view : Obj := { cls := .type "dict_items", data := .fields #[.ref d] }
  have I2 : Inv X pins σ H1 { s1 with heap := s1.heap.push view } := I1.kept (t' := s1.toks) fun b ob q => Heap.get?_push_of_some _ q
  have fin : wpAny (model X.prog X.w) X.A (pyIter (.ref s1.heap.objs.size)) (PIE X pins σ (.Name x tpos) R) X.xe { s1 with heap := s1.heap.push view } := by
    refine wpAny_pyIter_items (d := d) (knd := mixKind X.prog X.w) ⟨view, Heap.get?_push_size _ rfl, rfl, rfl⟩ (hm.push _) (pi_one (tk := s1.toks) I2 _ (turn_itemsN _ hdt) (.inl ⟨.none, .none, ?_⟩) q)
    rw [hl]; exact Heap.get?_push_size _ rfl
  refine ⟨hm.dictOf.typeIs, hm.dictOf.mapOf.noDict, ?_⟩
  show wpAny _ X.A (callWith cpos (.builtin "dict.items") [.ref d] [] []) _ X.xe s1
  exact method_meetsIn PySem.F.slot_dict_items PySem.F.entry_dict_items rfl (PySem.evalArgs_none ⟨rfl, hm.dictOf.typeIs, PySem.F.args_dict_items_1 _, _, meets_dict_items (mixKind X.prog X.w) d hs, ⟨vs, hm.dictOf⟩, fin⟩)
theorem it_itemsN {x : Str} {kvs : List (Int × PyData)} (ha : EX X a E O (.k kvs)) (hbase : attributeBase a "items" X.env (eval a X.env) = eval a X.env := by rfl) (hline : (apos.endLine == cpos.line) = true := by rfl) : IT X (.Name x tpos) (.Call (.Attribute a "items" apos) [] [] cpos) E O kvs (fun kv => vT [.int kv.1, kv.2]) := ⟨_, pi_itemsN WE.pe hbase hline, fun σ H R Q q => by
  refine ha σ H R _ fun v H1 r O1 ⟨e1, e2⟩ s z => ?_
  subst e1; subst e2
  obtain ⟨d, od, vs, rfl, g1, g2⟩ := z
  have hl : vs.length = kvs.length := kv_len (g2 : KvR _ vs kvs)
  refine ⟨d, od, vs, rfl, vis_sub _ _ _ _ g1, q _ H1 s ⟨fun i O' H' s1 hi => ?_, fun i O' H' x H2 s1 hi y => ?_, fun O' H' s1 => ?_⟩⟩
  · exact ⟨vis_sub _ _ _ _ (s1.vis _ _ g1), by rw [hl]; exact hi⟩
  · obtain ⟨T, k, u, y1, rfl, y2, rfl⟩ := y
    have s2 := Stp.laid (o := .tup [kV k, u]) s1.ok y2
    refine ⟨s2, ?_⟩
    have hg := paired_get g2 y1
    obtain ⟨kv, e3, e4, e5⟩ := hg
    rw [List.getElem?_eq_getElem hi] at e3
    cases e3
    obtain rfl : k = Sum.inl kvs[i].1 := e4
    exact .tup (.inl (vis_laid s1.ok y2)) (.cons (.int _) (.cons (dp_sub s2.vis _ _ (dp_sub s1.vis _ _ e5)) .nil))
  · exact ⟨vis_sub _ _ _ _ (s1.vis _ _ g1), by rw [hl]; exact Nat.le_refl _⟩⟩
end
end Py
namespace Rg

/-! ### the turn -/
def tn (w s : Nat) : Nat := w / Nat.gcd w s
theorem gcd_pos {w s : Nat} (hw : 0 < w) : 0 < Nat.gcd w s := Nat.gcd_pos_of_pos_left _ hw
theorem tn_pos {w s : Nat} (hw : 0 < w) : 0 < tn w s := Nat.div_pos (Nat.le_of_dvd hw (Nat.gcd_dvd_left w s)) (gcd_pos hw)
theorem tn_le (w s : Nat) : tn w s ≤ w := Nat.div_le_self _ _
theorem tn_mul (w s : Nat) : tn w s * Nat.gcd w s = w := Nat.div_mul_cancel (Nat.gcd_dvd_left w s)
theorem mul_mod_zero {w s k : Nat} (hw : 0 < w) : k * s % w = 0 ↔ tn w s ∣ k := by
  have hg := gcd_pos (s := s) hw
  have e1 : w = tn w s * Nat.gcd w s := (tn_mul w s).symm
  have e2 : s = s / Nat.gcd w s * Nat.gcd w s := (Nat.div_mul_cancel (Nat.gcd_dvd_right w s)).symm
  have cop : (tn w s).Coprime (s / Nat.gcd w s) := Nat.coprime_div_gcd_div_gcd hg
  rw [← Nat.dvd_iff_mod_eq_zero]
  constructor
  · intro h
    have h2 : tn w s * Nat.gcd w s ∣ k * (s / Nat.gcd w s) * Nat.gcd w s := by
      rw [Nat.mul_assoc, ← e2, ← e1]
      exact h
    exact cop.dvd_of_dvd_mul_right (Nat.dvd_of_mul_dvd_mul_right hg h2)
  · rintro ⟨c, rfl⟩
    refine ⟨c * (s / Nat.gcd w s), ?_⟩
    have key : ∀ t g q : Nat, t * c * (q * g) = t * g * (c * q) := fun t g q => by
      simp only [Nat.mul_assoc, Nat.mul_comm, Nat.mul_left_comm]
    have k1 := key (tn w s) (Nat.gcd w s) (s / Nat.gcd w s)
    rw [← e2, ← e1] at k1
    exact k1
theorem mod_eq_iff {w s i j : Nat} (hw : 0 < w) (h : i ≤ j) : i * s % w = j * s % w ↔ tn w s ∣ j - i := by
  rw [← mul_mod_zero hw, Nat.sub_mul]
  have hle : i * s ≤ j * s := Nat.mul_le_mul_right s h
  constructor
  · intro e
    exact Nat.sub_mod_eq_zero_of_mod_eq e.symm
  · intro e
    have e1 : j * s = i * s + (j * s - i * s) := by omega
    rw [e1, Nat.add_mod, e, Nat.add_zero, Nat.mod_mod]
theorem pl_inj {w s i j : Nat} (hw : 0 < w) (hi : i < tn w s) (hj : j < tn w s) (e : i * s % w = j * s % w) : i = j := by
  rcases Nat.le_total i j with h | h
  · have := Nat.eq_zero_of_dvd_of_lt ((mod_eq_iff hw h).mp e) (by omega)
    omega
  · have := Nat.eq_zero_of_dvd_of_lt ((mod_eq_iff hw h).mp e.symm) (by omega)
    omega
/-- the first k from 1 on with k * s a multiple of w -/
theorem turn_head {w s : Nat} (hw : 0 < w) : ((List.range w).filter fun i => (1 + i) * s % w == 0)[0]? = some (tn w s - 1) := by
  have h1 := tn_pos (s := s) hw
  have h2 := tn_le w s
  rw [← List.head?_eq_getElem?, List.head?_filter, List.find?_range_eq_some]
  refine ⟨?_, by simp; omega, fun j hj => ?_⟩
  · rw [beq_iff_eq, mul_mod_zero hw]
    exact ⟨1, by omega⟩
  · simp only [Bool.not_eq_true', beq_eq_false_iff_ne, ne_eq]
    rw [mul_mod_zero hw]
    intro h
    have := Nat.le_of_dvd (by omega) h
    omega

theorem step_wrap {w s i : Nat} (hs : s < w) : (i + 1) * s % w = if w ≤ i * s % w + s then i * s % w + s - w else i * s % w + s := by
  have hlt := Nat.mod_lt (i * s) (show 0 < w by omega)
  rw [Nat.add_mul, Nat.one_mul, Nat.add_mod, Nat.mod_eq_of_lt hs]
  split
  · rw [Nat.mod_eq_sub_mod (by assumption), Nat.mod_eq_of_lt (by omega)]
  · rw [Nat.mod_eq_of_lt (by omega)]
/-! ### which point lies at a place -/
def idx (w s m h : Nat) : Option Nat := (List.range m).find? fun k => k * s % w == h
theorem idx_some {w s m h k : Nat} (hw : 0 < w) (hm : m ≤ tn w s) : idx w s m h = some k ↔ k < m ∧ k * s % w = h := by
  unfold idx
  rw [List.find?_range_eq_some]
  constructor
  · rintro ⟨h1, h2, _⟩
    exact ⟨by simpa using h2, by simpa using h1⟩
  · rintro ⟨h1, rfl⟩
    refine ⟨by simp, by simpa using h1, fun j hj => ?_⟩
    simp only [Bool.not_eq_true', beq_eq_false_iff_ne, ne_eq]
    intro e
    have := pl_inj hw (by omega) (by omega) e
    omega
theorem idx_none {w s m h : Nat} : idx w s m h = none ↔ ∀ k, k < m → k * s % w ≠ h := by
  unfold idx
  rw [List.find?_range_eq_none]
  simp
theorem idx_succ {w s m h : Nat} (hw : 0 < w) (hm : m + 1 ≤ tn w s) : idx w s (m + 1) h = if h = m * s % w then some m else idx w s m h := by
  by_cases e : h = m * s % w
  · rw [if_pos e]
    exact (idx_some hw hm).mpr ⟨by omega, e.symm⟩
  · rw [if_neg e]
    cases q : idx w s m h with
    | none =>
      rw [idx_none] at q ⊢
      intro k hk
      by_cases hkm : k = m
      · subst hkm
        exact fun z => e z.symm
      · exact q k (by omega)
    | some k =>
      obtain ⟨h1, h2⟩ := (idx_some hw (by omega)).mp q
      exact (idx_some hw hm).mpr ⟨by omega, h2⟩

/-! ### the points round the ring -/
def ordP (w s m : Nat) : List (Nat × Nat) := (List.range w).filterMap fun h => (idx w s m h).map fun k => (h, k)
def ordL (w s m : Nat) : List Nat := (ordP w s m).map (·.2)
theorem mem_ordP {w s m : Nat} (hw : 0 < w) (hm : m ≤ tn w s) {p : Nat × Nat} : p ∈ ordP w s m ↔ p.2 < m ∧ p.1 = p.2 * s % w := by
  unfold ordP
  rw [List.mem_filterMap]
  constructor
  · rintro ⟨h, hh, e⟩
    obtain ⟨k, e1, rfl⟩ := Option.map_eq_some_iff.mp e
    obtain ⟨h1, h2⟩ := (idx_some hw hm).mp e1
    exact ⟨h1, h2.symm⟩
  · rintro ⟨h1, h2⟩
    obtain ⟨h, k⟩ := p
    simp only at h1 h2
    subst h2
    refine ⟨k * s % w, by simpa using Nat.mod_lt _ hw, ?_⟩
    rw [(idx_some hw hm).mpr ⟨h1, rfl⟩]
    rfl
theorem ordP_sorted (w s m : Nat) : (ordP w s m).Pairwise fun p q => p.1 < q.1 := by
  unfold ordP
  refine List.Pairwise.filterMap _ (fun a a' h b hb b' hb' => ?_) List.pairwise_lt_range
  obtain ⟨_, _, rfl⟩ := Option.map_eq_some_iff.mp hb
  obtain ⟨_, _, rfl⟩ := Option.map_eq_some_iff.mp hb'
  exact h
theorem nodup_of_lt {l : List (Nat × Nat)} (h : l.Pairwise fun p q => p.1 < q.1) : l.Nodup := h.imp fun {a b} z e => by rw [e] at z; exact Nat.lt_irrefl _ z
theorem ordP_perm {w s m : Nat} (hw : 0 < w) (hm : m ≤ tn w s) : (ordP w s m).Perm ((List.range m).map fun k => (k * s % w, k)) := by
  rw [List.perm_ext_iff_of_nodup (nodup_of_lt (ordP_sorted w s m))]
  · intro p
    rw [mem_ordP hw hm, List.mem_map]
    constructor
    · rintro ⟨h1, h2⟩
      exact ⟨p.2, by simpa using h1, by rw [← h2]⟩
    · rintro ⟨k, hk, rfl⟩
      exact ⟨by simpa using hk, rfl⟩
  · refine List.Pairwise.map _ (fun a b h e => h ?_) List.nodup_range
    exact (Prod.mk.inj e).2
theorem ordP_len {w s m : Nat} (hw : 0 < w) (hm : m ≤ tn w s) : (ordP w s m).length = m := by
  rw [(ordP_perm hw hm).length_eq]
  simp
theorem ordL_perm {w s m : Nat} (hw : 0 < w) (hm : m ≤ tn w s) : (ordL w s m).Perm (List.range m) := by
  unfold ordL
  have h := (ordP_perm hw hm).map (·.2)
  rw [List.map_map] at h
  have e : ((fun x : Nat × Nat => x.2) ∘ fun k => (k * s % w, k)) = id := rfl
  rwa [e, List.map_id] at h
theorem ordP_eq {w s m : Nat} (hw : 0 < w) (hm : m ≤ tn w s) : ordP w s m = (ordL w s m).map fun k => (k * s % w, k) := by
  unfold ordL
  rw [List.map_map]
  conv => lhs; rw [← List.map_id (ordP w s m)]
  apply List.map_congr_left
  intro p hp
  obtain ⟨_, h2⟩ := (mem_ordP hw hm).mp hp
  show p = (p.2 * s % w, p.2)
  rw [← h2]
theorem ordP_filter (w s m : Nat) : ((List.range w).filter fun i => (idx w s m i).isSome).map (fun i => (i, (idx w s m i).getD 0)) = ordP w s m := by
  unfold ordP
  induction List.range w with
  | nil => rfl
  | cons a r ih =>
    rw [List.filterMap_cons, List.filter_cons]
    cases q : idx w s m a with
    | none => simpa [q] using ih
    | some k => simp [q, ih]
end Rg
namespace Rg
/-! ### places and how far on the next point lies -/
def pl (w s k : Nat) : Nat := k * s % w
theorem pl_lt {w s k : Nat} (hw : 0 < w) : pl w s k < w := Nat.mod_lt _ hw
theorem pl_zero (w s : Nat) : pl w s 0 = 0 := by unfold pl; rw [Nat.zero_mul, Nat.zero_mod]
theorem pl_add {w s : Nat} (hw : 0 < w) (i j : Nat) : pl w s (i + j) = pl w s i + pl w s j ∨ pl w s (i + j) + w = pl w s i + pl w s j := by
  have h1 := pl_lt (s := s) (k := i) hw
  have h2 := pl_lt (s := s) (k := j) hw
  have e : pl w s (i + j) = (pl w s i + pl w s j) % w := by
    unfold pl
    rw [Nat.add_mul, Nat.add_mod]
  rw [e]
  by_cases h : pl w s i + pl w s j < w
  · exact .inl (Nat.mod_eq_of_lt h)
  · right
    rw [Nat.mod_eq_sub_mod (by omega), Nat.mod_eq_of_lt (by omega)]
    omega
theorem pl_sub {w s : Nat} (hw : 0 < w) {i j : Nat} (h : j ≤ i) : pl w s i = pl w s (i - j) + pl w s j ∨ pl w s i + w = pl w s (i - j) + pl w s j := by
  have := pl_add (s := s) hw (i - j) j
  rwa [Nat.sub_add_cancel h] at this
theorem pl_pos {w s k : Nat} (hw : 0 < w) (h0 : 0 < k) (hk : k < tn w s) : 0 < pl w s k := by
  rcases Nat.eq_zero_or_pos (pl w s k) with h | h
  · have := Nat.le_of_dvd h0 ((mul_mod_zero hw).mp h)
    omega
  · exact h
theorem pl_inj' {w s i j : Nat} (hw : 0 < w) (hi : i < tn w s) (hj : j < tn w s) (e : pl w s i = pl w s j) : i = j := pl_inj hw hi hj e
/-- how many places on from k the point n lies, 1 to w -/
def far (w s k n : Nat) : Nat := if k < n then pl w s (n - k) else w - pl w s (k - n)
theorem far_place {w s k n : Nat} (hw : 0 < w) (hk : k < tn w s) (hn : n < tn w s) : far w s k n = if pl w s k < pl w s n then pl w s n - pl w s k else pl w s n + w - pl w s k := by
  have h1 := pl_lt (s := s) (k := k) hw
  have h2 := pl_lt (s := s) (k := n) hw
  unfold far
  by_cases h : k < n
  · rw [if_pos h]
    have h3 := pl_sub (s := s) hw (Nat.le_of_lt h)
    have h4 := pl_lt (s := s) (k := n - k) hw
    have h5 := pl_pos (s := s) (k := n - k) hw (by omega) (by omega)
    split <;> omega
  · rw [if_neg h]
    have h3 := pl_sub (s := s) (i := k) (j := n) hw (by omega)
    have h4 := pl_lt (s := s) (k := k - n) hw
    by_cases e : k = n
    · subst e
      rw [Nat.sub_self, pl_zero, if_neg (Nat.lt_irrefl _)]
      omega
    · have h5 := pl_pos (s := s) (k := k - n) hw (by omega) (by omega)
      split <;> omega
theorem far_pos {w s k n : Nat} (hw : 0 < w) (hk : k < tn w s) (hn : n < tn w s) : 0 < far w s k n := by
  rw [far_place hw hk hn]
  have h1 := pl_lt (s := s) (k := k) hw
  split <;> omega
theorem far_le {w s k n : Nat} (hw : 0 < w) (hk : k < tn w s) (hn : n < tn w s) : far w s k n ≤ w := by
  rw [far_place hw hk hn]
  have h1 := pl_lt (s := s) (k := n) hw
  split <;> omega
theorem far_int {w s k n : Nat} (hw : 0 < w) (hk : k < tn w s) (hn : n < tn w s) : (((pl w s n : Nat) : Int) - (pl w s k : Nat) - 1) % (w : Int) + 1 = (far w s k n : Int) := by
  rw [far_place hw hk hn]
  have h1 := pl_lt (s := s) (k := k) hw
  have h2 := pl_lt (s := s) (k := n) hw
  split
  · rw [Int.emod_eq_of_lt (by omega) (by omega)]
    omega
  · rw [← Int.add_emod_right, Int.emod_eq_of_lt (by omega) (by omega)]
    omega
theorem far_inj {w s k n n' : Nat} (hw : 0 < w) (hk : k < tn w s) (hn : n < tn w s) (hn' : n' < tn w s) (e : far w s k n = far w s k n') : n = n' := by
  rw [far_place hw hk hn, far_place hw hk hn'] at e
  have h1 := pl_lt (s := s) (k := k) hw
  have h2 := pl_lt (s := s) (k := n) hw
  have h3 := pl_lt (s := s) (k := n') hw
  refine pl_inj' hw hn hn' ?_
  split at e <;> split at e <;> omega
/-- the gap of a point -/
def gapN (w s : Nat) : Nat → Nat → Nat
  | 0, _ => w
  | m + 1, k => min (gapN w s m k) (far w s k m)
theorem gapN_le {w s m k n : Nat} (hn : n < m) : gapN w s m k ≤ far w s k n := by
  induction m with
  | zero => omega
  | succ m ih =>
    show min (gapN w s m k) (far w s k m) ≤ _
    by_cases e : n = m
    · subst e
      exact Nat.min_le_right _ _
    · exact Nat.le_trans (Nat.min_le_left _ _) (ih (by omega))
theorem gapN_ex {w s m k : Nat} (hw : 0 < w) (hk : k < m) (hm : m ≤ tn w s) : ∃ n, n < m ∧ gapN w s m k = far w s k n := by
  have key : ∀ m, m ≤ tn w s → k < tn w s → (∃ n, n < m ∧ gapN w s m k = far w s k n) ∨ gapN w s m k = w := by
    intro m
    induction m with
    | zero => intro _ _; exact .inr rfl
    | succ m ih =>
      intro hm hk
      show (∃ n, n < m + 1 ∧ min (gapN w s m k) (far w s k m) = _) ∨ min (gapN w s m k) (far w s k m) = w
      have hf := far_le hw hk (show m < tn w s by omega)
      rcases ih (by omega) hk with ⟨n, h1, h2⟩ | h
      · left
        by_cases h : gapN w s m k ≤ far w s k m
        · exact ⟨n, by omega, by rw [Nat.min_eq_left h, h2]⟩
        · exact ⟨m, by omega, by rw [Nat.min_eq_right (by omega)]⟩
      · left
        exact ⟨m, by omega, by rw [h, Nat.min_eq_right hf]⟩
  rcases key m hm (by omega) with h | h
  · exact h
  · refine ⟨k, hk, ?_⟩
    rw [h]
    unfold far
    rw [if_neg (Nat.lt_irrefl _), Nat.sub_self, pl_zero]
    rfl
theorem gapN_eq {w s m k n : Nat} (hw : 0 < w) (hk : k < m) (hm : m ≤ tn w s) (hn : n < m) (h : ∀ n', n' < m → far w s k n ≤ far w s k n') : gapN w s m k = far w s k n := by
  obtain ⟨n', h1, h2⟩ := gapN_ex hw hk hm
  have h3 := gapN_le (w := w) (s := s) (k := k) hn
  have h4 := h n' h1
  omega
theorem gapN_b {w s m k : Nat} (hw : 0 < w) (hk : k < m) (hm : m ≤ tn w s) : 0 < gapN w s m k ∧ gapN w s m k ≤ w := by
  obtain ⟨n, h1, h2⟩ := gapN_ex hw hk hm
  rw [h2]
  exact ⟨far_pos hw (by omega) (by omega), far_le hw (by omega) (by omega)⟩
/-! ### the points in their order -/
theorem ordL_len {w s m : Nat} (hw : 0 < w) (hm : m ≤ tn w s) : (ordL w s m).length = m := by
  rw [(ordL_perm hw hm).length_eq]
  simp
theorem ordL_mem {w s m k : Nat} (hw : 0 < w) (hm : m ≤ tn w s) : k ∈ ordL w s m ↔ k < m := by
  rw [(ordL_perm hw hm).mem_iff]
  simp
theorem ordL_lt {w s m i : Nat} (hw : 0 < w) (hm : m ≤ tn w s) (hi : i < (ordL w s m).length) : (ordL w s m)[i] < m := (ordL_mem hw hm).mp (List.getElem_mem hi)
theorem ordL_sorted {w s m : Nat} (hw : 0 < w) (hm : m ≤ tn w s) : (ordL w s m).Pairwise fun i j => pl w s i < pl w s j := by
  have h := ordP_sorted w s m
  rw [ordP_eq hw hm, List.pairwise_map] at h
  exact h
theorem ordL_mono {w s m i j : Nat} (hw : 0 < w) (hm : m ≤ tn w s) (hij : i < j) (hj : j < (ordL w s m).length) : pl w s (ordL w s m)[i] < pl w s (ordL w s m)[j] :=
  List.pairwise_iff_getElem.mp (ordL_sorted hw hm) i j (by omega) hj hij
theorem ordL_zero {w s m : Nat} (hw : 0 < w) (hm : m ≤ tn w s) (h0 : 0 < m) : (ordL w s m)[0]'(by rw [ordL_len hw hm]; exact h0) = 0 := by
  have hl := ordL_len hw hm
  obtain ⟨i, hi, e⟩ := List.getElem_of_mem ((ordL_mem hw hm).mpr h0)
  rcases Nat.eq_zero_or_pos i with h | h
  · subst h
    exact e
  · have := ordL_mono hw hm h hi
    rw [e, pl_zero] at this
    omega
/-- the place behind the i-th point -/
def nxtP (w s m i : Nat) : Nat := if i + 1 < m then pl w s ((ordL w s m).getD (i + 1) 0) else w
theorem gap_ord {w s m i : Nat} (hw : 0 < w) (hm : m ≤ tn w s) (hi : i < m) : gapN w s m ((ordL w s m).getD i 0) = nxtP w s m i - pl w s ((ordL w s m).getD i 0) := by
  have hl := ordL_len hw hm
  have e1 : (ordL w s m).getD i 0 = (ordL w s m)[i]'(by omega) := by rw [List.getD_eq_getElem?_getD, List.getElem?_eq_getElem (by omega)]; rfl
  rw [e1]
  have hk := ordL_lt hw hm (i := i) (by omega)
  generalize hK : (ordL w s m)[i]'(by omega) = k at hk ⊢
  unfold nxtP
  by_cases h : i + 1 < m
  · rw [if_pos h]
    have e2 : (ordL w s m).getD (i + 1) 0 = (ordL w s m)[i + 1]'(by omega) := by rw [List.getD_eq_getElem?_getD, List.getElem?_eq_getElem (by omega)]; rfl
    rw [e2]
    have hn := ordL_lt hw hm (i := i + 1) (by omega)
    have hlt := ordL_mono hw hm (Nat.lt_succ_self i) (by omega)
    rw [hK] at hlt
    generalize hN : (ordL w s m)[i + 1]'(by omega) = n at hn hlt ⊢
    have hf : far w s k n = pl w s n - pl w s k := by rw [far_place hw (by omega) (by omega), if_pos hlt]
    rw [← hf]
    refine gapN_eq hw hk hm hn fun n' hn' => ?_
    obtain ⟨j, hj, e⟩ := List.getElem_of_mem ((ordL_mem hw hm).mpr hn')
    rw [hf, far_place hw (by omega) (by omega)]
    have h1 := pl_lt (s := s) (k := k) hw
    have h2 := pl_lt (s := s) (k := n) hw
    rcases Nat.lt_trichotomy j (i + 1) with h3 | h3 | h3
    · have : pl w s n' ≤ pl w s k := by
        rcases Nat.lt_or_ge j i with h4 | h4
        · have := ordL_mono hw hm h4 (by omega)
          rw [e, hK] at this
          omega
        · have : j = i := by omega
          subst this
          rw [e] at hK
          rw [hK]
          exact Nat.le_refl _
      rw [if_neg (by omega)]
      omega
    · subst h3
      rw [e] at hN
      subst hN
      rw [if_pos hlt]
      exact Nat.le_refl _
    · have := ordL_mono hw hm h3 hj
      rw [e, hN] at this
      rw [if_pos (by omega)]
      omega
  · rw [if_neg h]
    have h1 := pl_lt (s := s) (k := k) hw
    have hf : far w s k 0 = w - pl w s k := by
      unfold far
      rw [if_neg (by omega), Nat.sub_zero]
    rw [← hf]
    refine gapN_eq hw hk hm (by omega) fun n' hn' => ?_
    rw [hf, far_place hw (by omega) (by omega)]
    obtain ⟨j, hj, e⟩ := List.getElem_of_mem ((ordL_mem hw hm).mpr hn')
    have : pl w s n' ≤ pl w s k := by
      rcases Nat.lt_or_ge j i with h4 | h4
      · have := ordL_mono hw hm h4 (by omega)
        rw [e, hK] at this
        omega
      · have : j = i := by omega
        subst this
        rw [e] at hK
        rw [hK]
        exact Nat.le_refl _
    rw [if_neg (by omega)]
    omega
theorem nxtP_ge {w s m i : Nat} (hw : 0 < w) (hm : m ≤ tn w s) (hi : i < m) : pl w s ((ordL w s m).getD i 0) ≤ nxtP w s m i := by
  have hl := ordL_len hw hm
  unfold nxtP
  split
  · have h1 := ordL_mono hw hm (Nat.lt_succ_self i) (by omega)
    rw [List.getD_eq_getElem?_getD, List.getD_eq_getElem?_getD, List.getElem?_eq_getElem (by omega), List.getElem?_eq_getElem (by omega)]
    exact Nat.le_of_lt h1
  · exact Nat.le_of_lt (pl_lt hw)
def gapL (w s m : Nat) : List Nat := (ordL w s m).map (gapN w s m)
theorem gapL_len {w s m : Nat} (hw : 0 < w) (hm : m ≤ tn w s) : (gapL w s m).length = m := by
  unfold gapL
  rw [List.length_map, ordL_len hw hm]
theorem gapL_range {w s m : Nat} (hw : 0 < w) (hm : m ≤ tn w s) : gapL w s m = (List.range m).map fun i => nxtP w s m i - pl w s ((ordL w s m).getD i 0) := by
  have hl := ordL_len hw hm
  apply List.ext_getElem
  · rw [gapL_len hw hm]; simp
  · intro i h1 h2
    rw [gapL_len hw hm] at h1
    rw [List.getElem_map, List.getElem_range, ← gap_ord hw hm h1]
    have e : (gapL w s m)[i]? = some (gapN w s m ((ordL w s m).getD i 0)) := by
      unfold gapL
      rw [List.getElem?_map, List.getD_eq_getElem?_getD, List.getElem?_eq_getElem (by omega)]
      rfl
    rw [List.getElem?_eq_getElem (by rw [gapL_len hw hm]; exact h1)] at e
    exact Option.some.inj e
theorem gapL_mem {w s m g : Nat} (hw : 0 < w) (hm : m ≤ tn w s) : g ∈ gapL w s m ↔ ∃ k, k < m ∧ gapN w s m k = g := by
  unfold gapL
  rw [List.mem_map]
  constructor
  · rintro ⟨k, h1, h2⟩
    exact ⟨k, (ordL_mem hw hm).mp h1, h2⟩
  · rintro ⟨k, h1, h2⟩
    exact ⟨k, (ordL_mem hw hm).mpr h1, h2⟩
theorem gapL_sum {w s m : Nat} (hw : 0 < w) (hm : m ≤ tn w s) (h0 : 0 < m) : (gapL w s m).sum = w := by
  rw [gapL_range hw hm]
  have hl := ordL_len hw hm
  have at0 : pl w s ((ordL w s m).getD 0 0) = 0 := by
    have := ordL_zero hw hm h0
    rw [List.getD_eq_getElem?_getD, List.getElem?_eq_getElem (by omega)]
    show pl w s ((ordL w s m)[0]'(by omega)) = 0
    rw [this, pl_zero]
  have key : ∀ i, i ≤ m → ((List.range i).map fun i => nxtP w s m i - pl w s ((ordL w s m).getD i 0)).sum = if i = 0 then 0 else nxtP w s m (i - 1) := by
    intro i
    induction i with
    | zero => intro _; rfl
    | succ i ih =>
      intro hi
      rw [List.range_succ, List.map_append, List.sum_append, ih (by omega), if_neg (Nat.succ_ne_zero i)]
      show _ + (nxtP w s m i - pl w s ((ordL w s m).getD i 0) + 0) = nxtP w s m i
      have hle : pl w s ((ordL w s m).getD i 0) ≤ nxtP w s m i := by
        unfold nxtP
        split
        · have h1 := ordL_mono hw hm (Nat.lt_succ_self i) (by omega)
          rw [List.getD_eq_getElem?_getD, List.getD_eq_getElem?_getD, List.getElem?_eq_getElem (by omega), List.getElem?_eq_getElem (by omega)]
          exact Nat.le_of_lt h1
        · exact Nat.le_of_lt (pl_lt hw)
      by_cases e : i = 0
      · subst e
        rw [if_pos rfl, at0]
        omega
      · rw [if_neg e]
        have : nxtP w s m (i - 1) = pl w s ((ordL w s m).getD i 0) := by
          unfold nxtP
          rw [Nat.sub_add_cancel (by omega), if_pos (by omega)]
        omega
  rw [key m (Nat.le_refl _), if_neg (by omega)]
  unfold nxtP
  rw [if_neg (by omega)]
/-! ### lengths -/
def lenL (w s m : Nat) : List Nat := (List.range (w + 1)).filter fun g => decide (g ∈ gapL w s m)
theorem lenL_mem {w s m g : Nat} (hw : 0 < w) (hm : m ≤ tn w s) : g ∈ lenL w s m ↔ g ∈ gapL w s m := by
  unfold lenL
  rw [List.mem_filter]
  simp only [decide_eq_true_eq, List.mem_range]
  constructor
  · exact fun h => h.2
  · intro h
    obtain ⟨k, h1, rfl⟩ := (gapL_mem hw hm).mp h
    have := gapN_b hw h1 hm
    exact ⟨by omega, h⟩
theorem lenL_sorted (w s m : Nat) : (lenL w s m).Pairwise (· < ·) := List.pairwise_lt_range.filter _
theorem nodup_lt {l : List Nat} (h : l.Pairwise (· < ·)) : l.Nodup := h.imp fun {a b} (z : a < b) (e : a = b) => by omega
theorem sum_sub : ∀ (l D : List Nat), l.Nodup → (∀ k ∈ l, k ∈ D) → l.sum ≤ D.sum
  | [], _, _, _ => by simp
  | a :: r, D, hnd, hs => by
    have h1 := List.nodup_cons.mp hnd
    have ha := hs a List.mem_cons_self
    have h2 := sum_sub r (D.erase a) h1.2 fun k hk => (List.mem_erase_of_ne (fun e : k = a => h1.1 (by rw [← e]; exact hk))).mpr (hs k (List.mem_cons_of_mem _ hk))
    have h3 : D.sum = a + (D.erase a).sum := by
      have := (List.perm_cons_erase ha).sum_nat
      rw [this, List.sum_cons]
    rw [List.sum_cons]
    omega
theorem sum_big : ∀ (l : List Nat) (c : Nat), l.Pairwise (· < ·) → (∀ x ∈ l, c < x) → l.length * (2 * c + l.length + 1) ≤ 2 * l.sum
  | [], c, _, _ => by simp
  | a :: r, c, hp, hs => by
    have hp' := List.pairwise_cons.mp hp
    have ha := hs a List.mem_cons_self
    have ih := sum_big r a hp'.2 hp'.1
    rw [List.sum_cons, List.length_cons]
    have hm : r.length * (2 * (c + 1)) ≤ r.length * (2 * a) := Nat.mul_le_mul_left _ (by omega)
    generalize r.length = n at ih hm ⊢
    generalize r.sum = t at ih ⊢
    have e1 : (n + 1) * (2 * c + (n + 1) + 1) = n * (2 * (c + 1)) + n * n + 2 * c + n + 2 := by
      simp only [Nat.add_mul, Nat.mul_add, Nat.one_mul, Nat.mul_one]
      omega
    have e2 : n * (2 * a + n + 1) = n * (2 * a) + n * n + n := by
      simp only [Nat.mul_add, Nat.mul_one]
    omega
theorem lenL_few {w s m : Nat} (hw : 0 < w) (hm : m ≤ tn w s) (h0 : 0 < m) (h1 : w ≤ 1000) : (lenL w s m).length < 64 := by
  have hs := sum_sub (lenL w s m) (gapL w s m) (nodup_lt (lenL_sorted w s m)) fun k hk => (lenL_mem hw hm).mp hk
  rw [gapL_sum hw hm h0] at hs
  have hb := sum_big (lenL w s m) 0 (lenL_sorted w s m) fun x hx => by
    obtain ⟨k, h2, rfl⟩ := (gapL_mem hw hm).mp ((lenL_mem hw hm).mp hx)
    exact (gapN_b hw h2 hm).1
  rcases Nat.lt_or_ge (lenL w s m).length 64 with h | h
  · exact h
  · have : 64 * (2 * 0 + 64 + 1) ≤ (lenL w s m).length * (2 * 0 + (lenL w s m).length + 1) := Nat.mul_le_mul h (by omega)
    omega
theorem range_getD (l : List Nat) : (List.range l.length).map (fun i => l.getD i 0) = l := by
  apply List.ext_getElem
  · simp
  · intro i h1 h2
    rw [List.getElem_map, List.getElem_range, List.getD_eq_getElem?_getD, List.getElem?_eq_getElem h2]
    rfl
theorem range_filter (l : List Nat) (q : Nat → Bool) : ((List.range l.length).filter fun i => q (l.getD i 0)).map (fun i => l.getD i 0) = l.filter q := by
  conv => rhs; rw [← range_getD l, List.filter_map]
  rfl
/-- the points with the greatest gap -/
def wideL (w s m : Nat) : List Nat := (List.range m).filter fun k => gapN w s m k == (lenL w s m).getLastD 0
/-- the next point round the ring -/
def nx (w s m k : Nat) : Nat := (ordL w s m ++ ordL w s m).getD ((ordL w s m).idxOf k + 1) 0
theorem ordL_nodup {w s m : Nat} (hw : 0 < w) (hm : m ≤ tn w s) : (ordL w s m).Nodup := (ordL_perm hw hm).nodup_iff.mpr List.nodup_range
theorem ordL_idx {w s m i : Nat} (hw : 0 < w) (hm : m ≤ tn w s) (hi : i < m) : (ordL w s m).idxOf ((ordL w s m).getD i 0) = i := by
  have hl := ordL_len hw hm
  rw [List.getD_eq_getElem?_getD, List.getElem?_eq_getElem (by omega)]
  exact (ordL_nodup hw hm).idxOf_getElem i (by omega)
theorem gapL_last {w s m : Nat} (hw : 0 < w) (hm : m ≤ tn w s) (h0 : 0 < m) : (gapL w s m).getLastD 0 = gapN w s m ((ordL w s m).getLastD 0) := by
  have hl := ordL_len hw hm
  obtain ⟨r, x, e⟩ : ∃ r x, ordL w s m = r ++ [x] := by
    refine ⟨(ordL w s m).dropLast, (ordL w s m).getLast (fun z => ?_), (List.dropLast_concat_getLast _).symm⟩
    rw [z] at hl
    simp at hl
    omega
  unfold gapL
  rw [e, List.map_append]
  show (r.map (gapN w s m) ++ [gapN w s m x]).getLastD 0 = _
  rw [List.getLastD_concat, List.getLastD_concat]
theorem ordL_ne {w s m : Nat} (hw : 0 < w) (hm : m ≤ tn w s) (h0 : 0 < m) : ordL w s m ≠ [] := fun e => by
  have hl := ordL_len hw hm
  rw [e] at hl
  simp at hl
  omega
theorem ordL_last_lt {w s m : Nat} (hw : 0 < w) (hm : m ≤ tn w s) (h0 : 0 < m) : (ordL w s m).getLastD 0 < m := by
  have h := ordL_ne hw hm h0
  have e : (ordL w s m).getLastD 0 = (ordL w s m).getLast h := by
    rw [List.getLastD_eq_getLast?, List.getLast?_eq_getLast h]
    rfl
  rw [e]
  exact (ordL_mem hw hm).mp (List.getLast_mem h)
def rgt (w s m : Nat) : Nat × Nat := if m = 1 then (0, w) else ((ordL w s m).getD 1 0, gapN w s m 0)
def lft (w s m : Nat) : Nat × Nat := ((ordL w s m).getLastD 0, gapN w s m ((ordL w s m).getLastD 0))
theorem ordL_one {w s : Nat} (hw : 0 < w) : ordL w s 1 = [0] := by
  have hm : 1 ≤ tn w s := tn_pos hw
  have hl := ordL_len hw hm
  have h0 := ordL_zero hw hm (Nat.lt_succ_self 0)
  match h : ordL w s 1, hl with
  | [x], _ =>
    have : (ordL w s 1)[0]'(by rw [h]; exact Nat.lt_succ_self 0) = x := by simp [h]
    rw [h0] at this
    rw [this]
theorem gapN_one (w s : Nat) : gapN w s 1 0 = w := by
  show min w (far w s 0 0) = w
  unfold far
  rw [if_neg (Nat.lt_irrefl _), Nat.sub_self, pl_zero]
  exact Nat.min_self _
theorem lft_one {w s : Nat} (hw : 0 < w) : lft w s 1 = (0, w) := by
  unfold lft
  rw [ordL_one hw]
  show (0, gapN w s 1 0) = _
  rw [gapN_one]
theorem wideL_perm {w s m : Nat} (hw : 0 < w) (hm : m ≤ tn w s) : (wideL w s m).Perm ((ordL w s m).filter fun k => gapN w s m k == (lenL w s m).getLastD 0) := ((ordL_perm hw hm).filter _).symm
theorem wideL_sorted (w s m : Nat) : (wideL w s m).Pairwise (· < ·) := List.pairwise_lt_range.filter _
theorem gapL_getD {w s m i : Nat} (hw : 0 < w) (hm : m ≤ tn w s) (hi : i < m) : (gapL w s m).getD i 0 = gapN w s m ((ordL w s m).getD i 0) := by
  have hl := ordL_len hw hm
  unfold gapL
  rw [List.getD_eq_getElem?_getD, List.getElem?_map, List.getD_eq_getElem?_getD, List.getElem?_eq_getElem (by omega)]
  rfl
end Rg
/-! three lengths -/
namespace Rg
/-- what the points right and left of point 0 are: a the least place, b the greatest -/
structure RL (w s m a b : Nat) : Prop where
  w0 : 0 < w
  mt : m ≤ tn w s
  a0 : 1 ≤ a
  am : a < m
  b0 : 1 ≤ b
  bm : b < m
  mn : ∀ j, 1 ≤ j → j < m → pl w s a ≤ pl w s j
  mx : ∀ j, j < m → pl w s j ≤ pl w s b
section
variable {w s m a b : Nat}
theorem RL.pos (h : RL w s m a b) {j : Nat} (h0 : 1 ≤ j) (h1 : j < m) : 0 < pl w s j := pl_pos h.w0 h0 (Nat.lt_of_lt_of_le h1 h.mt)
theorem RL.lt (h : RL w s m a b) (j : Nat) : pl w s j < w := pl_lt h.w0
theorem RL.inj (h : RL w s m a b) {i j : Nat} (hi : i < m) (hj : j < m) (e : pl w s i = pl w s j) : i = j := pl_inj' h.w0 (Nat.lt_of_lt_of_le hi h.mt) (Nat.lt_of_lt_of_le hj h.mt) e
theorem RL.sum (h : RL w s m a b) : m ≤ a + b := by
  rcases Nat.lt_or_ge (a + b) m with z | z
  · exfalso
    have h1 := h.mx (a + b) z
    have h2 := h.mn (a + b) (by have := h.a0; omega) z
    have h3 := h.pos h.a0 h.am
    have h4 := h.lt b
    have h5 := pl_add (s := s) h.w0 a b
    omega
  · exact z
/-- the next point by its number -/
def nx3 (m a b k : Nat) : Nat := if k + a < m then k + a else if b ≤ k then k - b else k + a - b
def gp3 (w s m a b k : Nat) : Nat := if k + a < m then pl w s a else if b ≤ k then w - pl w s b else pl w s a + (w - pl w s b)
theorem RL.nx_lt (h : RL w s m a b) {k : Nat} (hk : k < m) : nx3 m a b k < m := by
  have := h.sum
  have := h.am
  have := h.bm
  have := h.b0
  have := h.a0
  unfold nx3
  split
  · omega
  · split
    · omega
    · omega
theorem RL.far_nx (h : RL w s m a b) {k : Nat} (hk : k < m) : far w s k (nx3 m a b k) = gp3 w s m a b k := by
  have hs := h.sum
  have ha := h.a0
  have hb := h.b0
  have ham := h.am
  have hbm := h.bm
  unfold nx3 gp3 far
  split
  · rw [if_pos (by omega), Nat.add_sub_cancel_left]
  · split
    · rw [if_neg (by omega), show k - (k - b) = b by omega]
    · rename_i h1 h2
      by_cases hab : b < a
      · rw [if_pos (by omega), show k + a - b - k = a - b by omega]
        have h3 := pl_sub (s := s) h.w0 (Nat.le_of_lt hab)
        have h4 := h.mn (a - b) (by omega) (by omega)
        have h5 := h.pos hb hbm
        have h6 := h.lt b
        omega
      · rw [if_neg (by omega), show k - (k + a - b) = b - a by omega]
        have h3 := pl_sub (s := s) h.w0 (show a ≤ b by omega)
        have h4 := h.mx a ham
        have h5 := h.lt b
        have h6 := h.lt (b - a)
        omega
theorem RL.far_le (h : RL w s m a b) {k n : Nat} (hk : k < m) (hn : n < m) : gp3 w s m a b k ≤ far w s k n := by
  have hs := h.sum
  have ha := h.a0
  have hb := h.b0
  have ham := h.am
  have hbm := h.bm
  have hla := h.lt a
  have hlb := h.lt b
  have hpa := h.pos ha ham
  unfold gp3 far
  split
  · rename_i h1
    split
    · exact h.mn (n - k) (by omega) (by omega)
    · by_cases hd : k - n = 0
      · rw [hd, pl_zero]
        omega
      · have h3 := pl_add (s := s) h.w0 (k - n) a
        have h4 := h.mn (k - n + a) (by omega) (by omega)
        have h5 := h.lt (k - n)
        have h6 := h.lt (k - n + a)
        omega
  · split
    · rename_i h1 h2
      split
      · have h3 := pl_add (s := s) h.w0 (n - k) b
        have h4 := h.mx (n - k + b) (by omega)
        have h5 := h.pos (show 1 ≤ n - k by omega) (by omega)
        have h6 := h.lt (n - k)
        omega
      · have h4 := h.mx (k - n) (by omega)
        omega
    · rename_i h1 h2
      split
      · have h3 := pl_sub (s := s) h.w0 (show n - k ≤ a by omega)
        have h4 := h.mn (n - k) (by omega) (by omega)
        have h5 := h.mx (a - (n - k)) (by omega)
        have h6 : pl w s (n - k) ≠ pl w s a := fun z => by
          have := h.inj (by omega) ham z
          omega
        omega
      · have h3 := pl_sub (s := s) h.w0 (show k - n ≤ b by omega)
        have h4 := h.mn (b - (k - n)) (by omega) (by omega)
        have h5 := h.mx (k - n) (by omega)
        have h6 := h.lt (b - (k - n))
        omega
theorem RL.gap (h : RL w s m a b) {k : Nat} (hk : k < m) : gapN w s m k = gp3 w s m a b k := by
  rw [← h.far_nx hk]
  exact gapN_eq h.w0 hk h.mt (h.nx_lt hk) fun n hn => by
    rw [h.far_nx hk]
    exact h.far_le hk hn
end
/-- the next point round the ring is the nearest one on -/
theorem nx_far {w s m k : Nat} (hw : 0 < w) (hm : m ≤ tn w s) (hk : k < m) : nx w s m k < m ∧ far w s k (nx w s m k) = gapN w s m k := by
  have hl := ordL_len hw hm
  obtain ⟨i, hi, rfl⟩ := List.getElem_of_mem ((ordL_mem hw hm).mpr hk)
  have hi' : i < m := by omega
  have eg : (ordL w s m).getD i 0 = (ordL w s m)[i] := by rw [List.getD_eq_getElem?_getD, List.getElem?_eq_getElem hi]; rfl
  have e1 : nx w s m (ordL w s m)[i] = (ordL w s m ++ ordL w s m).getD (i + 1) 0 := by
    unfold nx
    rw [← eg, ordL_idx hw hm hi']
  have e2 := gap_ord hw hm hi'
  rw [eg] at e2
  rw [e1, e2]
  unfold nxtP
  by_cases h1 : i + 1 < m
  · have e3 : (ordL w s m ++ ordL w s m).getD (i + 1) 0 = (ordL w s m)[i + 1]'(by omega) := by
      rw [List.getD_eq_getElem?_getD, List.getElem?_append_left (by omega), List.getElem?_eq_getElem (by omega)]
      rfl
    have e4 : (ordL w s m).getD (i + 1) 0 = (ordL w s m)[i + 1]'(by omega) := by
      rw [List.getD_eq_getElem?_getD, List.getElem?_eq_getElem (by omega)]
      rfl
    have hlt := ordL_lt hw hm (show i + 1 < (ordL w s m).length by omega)
    have hmo := ordL_mono hw hm (Nat.lt_succ_self i) (show i + 1 < (ordL w s m).length by omega)
    rw [e3, e4, if_pos h1]
    refine ⟨hlt, ?_⟩
    rw [far_place hw (by omega) (by omega), if_pos hmo]
  · have e3 : (ordL w s m ++ ordL w s m).getD (i + 1) 0 = 0 := by
      have h0 := ordL_zero hw hm (by omega)
      rw [List.getD_eq_getElem?_getD, List.getElem?_append_right (by omega), show i + 1 - (ordL w s m).length = 0 by omega, List.getElem?_eq_getElem (by omega), h0]
      rfl
    rw [e3, if_neg h1]
    refine ⟨by omega, ?_⟩
    rw [far_place hw (by omega) (by omega), pl_zero, if_neg (by omega), Nat.zero_add]
theorem RL.next {w s m a b k : Nat} (h : RL w s m a b) (hk : k < m) : nx w s m k = nx3 m a b k := by
  obtain ⟨h1, h2⟩ := nx_far h.w0 h.mt hk
  refine far_inj (k := k) h.w0 (Nat.lt_of_lt_of_le hk h.mt) (Nat.lt_of_lt_of_le h1 h.mt) (Nat.lt_of_lt_of_le (h.nx_lt hk) h.mt) ?_
  rw [h2, h.far_nx hk, h.gap hk]
/-- right and left are what they should be -/
theorem rl_ok {w s m : Nat} (hw : 0 < w) (hm : m ≤ tn w s) (h2 : 2 ≤ m) : RL w s m (rgt w s m).1 (lft w s m).1 ∧ (rgt w s m).2 = pl w s (rgt w s m).1 ∧ (lft w s m).2 = w - pl w s (lft w s m).1 := by
  have hl := ordL_len hw hm
  have h0 := ordL_zero hw hm (by omega)
  have ea : (rgt w s m).1 = (ordL w s m)[1]'(by omega) := by
    unfold rgt
    rw [if_neg (by omega)]
    show (ordL w s m).getD 1 0 = _
    rw [List.getD_eq_getElem?_getD, List.getElem?_eq_getElem (by omega)]
    rfl
  have hne := ordL_ne hw hm (by omega)
  have eb : (lft w s m).1 = (ordL w s m)[m - 1]'(by omega) := by
    unfold lft
    show (ordL w s m).getLastD 0 = _
    rw [List.getLastD_eq_getLast?, List.getLast?_eq_getElem?, List.getElem?_eq_getElem (by omega)]
    simp [hl]
  have key : ∀ j, j < m → ∃ i, ∃ hi : i < (ordL w s m).length, (ordL w s m)[i] = j := fun j hj => List.getElem_of_mem ((ordL_mem hw hm).mpr hj)
  have mono : ∀ i j (hi : i < (ordL w s m).length) (hj : j < (ordL w s m).length), i ≤ j → pl w s (ordL w s m)[i] ≤ pl w s (ordL w s m)[j] := fun i j hi hj hij => by
    rcases Nat.lt_or_eq_of_le hij with z | z
    · exact Nat.le_of_lt (ordL_mono hw hm z hj)
    · subst z; exact Nat.le_refl _
  have hlt1 := ordL_lt hw hm (show 1 < (ordL w s m).length by omega)
  have hltm := ordL_lt hw hm (show m - 1 < (ordL w s m).length by omega)
  have hp1 := ordL_mono hw hm (show 0 < 1 by decide) (show 1 < (ordL w s m).length by omega)
  have hpm := ordL_mono hw hm (show 0 < m - 1 by omega) (show m - 1 < (ordL w s m).length by omega)
  rw [h0, pl_zero] at hp1 hpm
  have n1 : ∀ x, 0 < pl w s x → 1 ≤ x := fun x hx => by
    rcases Nat.eq_zero_or_pos x with z | z
    · rw [z, pl_zero] at hx; omega
    · exact z
  have hRL : RL w s m (rgt w s m).1 (lft w s m).1 := by
    rw [ea, eb]
    refine ⟨hw, hm, n1 _ hp1, hlt1, n1 _ hpm, hltm, fun j hj hjm => ?_, fun j hj => ?_⟩
    · obtain ⟨i, hi, rfl⟩ := key j hjm
      refine mono 1 i (by omega) hi ?_
      rcases Nat.eq_zero_or_pos i with z | z
      · subst z; omega
      · exact z
    · obtain ⟨i, hi, rfl⟩ := key j hj
      exact mono i (m - 1) hi (by omega) (by omega)
  refine ⟨hRL, ?_, ?_⟩
  · have : (rgt w s m).2 = gapN w s m 0 := by unfold rgt; rw [if_neg (by omega)]
    rw [this, hRL.gap (by omega)]
    unfold gp3
    rw [if_pos (by have := hRL.am; omega)]
  · have : (lft w s m).2 = gapN w s m (lft w s m).1 := rfl
    rw [this, hRL.gap hRL.bm]
    unfold gp3
    have h3 := hRL.sum
    have h4 := hRL.bm
    split
    · rename_i h5
      have h6 := pl_add (s := s) hw (lft w s m).1 (rgt w s m).1
      have h7 := hRL.mx _ h5
      have h8 := hRL.mn ((lft w s m).1 + (rgt w s m).1) (by omega) h5
      have h9 := hRL.lt (lft w s m).1
      have h10 := hRL.pos hRL.a0 hRL.am
      omega
    · rw [if_pos (Nat.le_refl _)]
/-- all gaps, by how many -/
theorem gap_perm {w s m a b : Nat} (h : RL w s m a b) : (gapL w s m).Perm (List.replicate (m - a) (pl w s a) ++ (List.replicate (a + b - m) (pl w s a + (w - pl w s b)) ++ List.replicate (m - b) (w - pl w s b))) := by
  have h1 : (gapL w s m).Perm ((List.range m).map (gapN w s m)) := (ordL_perm h.w0 h.mt).map _
  refine h1.trans ?_
  have e : (List.range m).map (gapN w s m) = List.replicate (m - a) (pl w s a) ++ (List.replicate (a + b - m) (pl w s a + (w - pl w s b)) ++ List.replicate (m - b) (w - pl w s b)) := by
    have hs := h.sum
    have ha := h.a0
    have hb := h.b0
    have ham := h.am
    have hbm := h.bm
    apply List.ext_getElem
    · simp; omega
    · intro i h2 h3
      have hi : i < m := by simpa using h2
      rw [List.getElem_map, List.getElem_range, h.gap hi]
      unfold gp3
      split
      · rw [List.getElem_append_left (by simp; omega), List.getElem_replicate]
      · rw [List.getElem_append_right (by simp; omega)]
        split
        · rw [List.getElem_append_right (by simp; omega), List.getElem_replicate]
        · rw [List.getElem_append_left (by simp; omega), List.getElem_replicate]
  rw [e]
theorem gap_mem3 {w s m a b g : Nat} (h : RL w s m a b) : g ∈ gapL w s m ↔ g = pl w s a ∨ g = w - pl w s b ∨ (m < a + b ∧ g = pl w s a + (w - pl w s b)) := by
  have ham := h.am
  have hbm := h.bm
  rw [(gap_perm h).mem_iff, List.mem_append, List.mem_append, List.mem_replicate, List.mem_replicate, List.mem_replicate]
  constructor
  · rintro (⟨_, e⟩ | ⟨h1, e⟩ | ⟨_, e⟩)
    · exact .inl e
    · exact .inr (.inr ⟨by omega, e⟩)
    · exact .inr (.inl e)
  · rintro (e | e | ⟨h1, e⟩)
    · exact .inl ⟨by omega, e⟩
    · exact .inr (.inr ⟨by omega, e⟩)
    · exact .inr (.inl ⟨by omega, e⟩)
theorem sorted_ext : ∀ {l r : List Nat}, l.Pairwise (· < ·) → r.Pairwise (· < ·) → (∀ x, x ∈ l ↔ x ∈ r) → l = r := by
  intro l r hl hr hm
  refine List.Perm.eq_of_pairwise (le := (· < ·)) (fun a b _ _ h1 h2 => absurd (Nat.lt_trans h1 h2) (Nat.lt_irrefl _)) hl hr ?_
  exact (List.perm_ext_iff_of_nodup (nodup_lt hl) (nodup_lt hr)).mpr hm
/-- the lengths in order -/
def len3 (A B : Nat) (t : Bool) : List Nat := (if A < B then [A, B] else if B < A then [B, A] else [A]) ++ (if t then [A + B] else [])
theorem len3_ok {A B : Nat} {t : Bool} (hA : 0 < A) (hB : 0 < B) : (len3 A B t).Pairwise (· < ·) ∧ ∀ x, x ∈ len3 A B t ↔ x = A ∨ x = B ∨ (t = true ∧ x = A + B) := by
  unfold len3
  cases t
  · simp only [Bool.false_eq_true, if_false, List.append_nil]
    split
    · refine ⟨by simp; omega, fun x => by simp⟩
    · split
      · refine ⟨by simp; omega, fun x => by simp; omega⟩
      · refine ⟨by simp, fun x => by simp; omega⟩
  · simp only [if_true]
    split
    · refine ⟨by simp; omega, fun x => by simp⟩
    · split
      · refine ⟨by simp; omega, fun x => by simp; omega⟩
      · refine ⟨by simp; omega, fun x => by simp; omega⟩
theorem lenL_three {w s m a b : Nat} (h : RL w s m a b) : lenL w s m = len3 (pl w s a) (w - pl w s b) (decide (m < a + b)) := by
  have hp := h.pos h.a0 h.am
  have hq := h.lt b
  obtain ⟨h1, h2⟩ := len3_ok (A := pl w s a) (B := w - pl w s b) (t := decide (m < a + b)) hp (by omega)
  refine sorted_ext (lenL_sorted w s m) h1 fun x => ?_
  rw [lenL_mem h.w0 h.mt, gap_mem3 h, h2, decide_eq_true_eq]
theorem lenL_one {w s : Nat} (hw : 0 < w) : lenL w s 1 = [w] := by
  have hm : 1 ≤ tn w s := tn_pos hw
  refine sorted_ext (lenL_sorted w s 1) (by simp) fun x => ?_
  rw [lenL_mem hw hm]
  unfold gapL
  rw [ordL_one hw]
  simp only [List.map_cons, List.map_nil]
  rw [gapN_one]
end Rg
namespace Py
open PySem PySem.Spec PyProof.Rows L2 Rg
/-! what each def is worth -/
def cellN (ns : List Int) (k : Nat) : Int := (ns[k]?).getD 0
def T__law_cell_at : FSpec := fun rs O Φ => ∃ (ns : List Int) (k : Nat), rs = [.s ns, vI k] ∧ Φ (vI (cellN ns k)) O
def mixD (ns : List Int) (k : Nat) : Int := (cellN ns k + 7919 * k + 1) * 48271 % 2147483647
def mixI (ns : List Int) (k : Nat) : Int := (mixD ns k * mixD ns k + 7 * mixD ns k + k) % 2147483629
def mixN (ns : List Int) (k : Nat) : Nat := (mixI ns k).toNat
theorem mixD_lt (ns : List Int) (k : Nat) : 0 ≤ mixD ns k ∧ mixD ns k < 2147483647 := by unfold mixD; omega
theorem mixN_cast (ns : List Int) (k : Nat) : (mixN ns k : Int) = mixI ns k := by
  unfold mixN mixI
  omega
theorem mixN_lt (ns : List Int) (k : Nat) : mixN ns k < 2147483629 := by
  have h := mixN_cast ns k
  unfold mixI at h
  omega
def T__law_mixed : FSpec := fun rs O Φ => ∃ (ns : List Int) (k : Nat), rs = [.s ns, vI k] ∧ Φ (vI (mixN ns k)) O
def drawD (n : Nat) (k : Nat) : Nat := (n + 104729 * k + 17) * 69621 % 2147483647
def drawN (n : Nat) (k : Nat) : Nat := (drawD n k * drawD n k + 3 * drawD n k + k) % 2147483629
theorem drawN_lt (n k : Nat) : drawN n k < 2147483629 := Nat.mod_lt _ (by decide)
def T__law_drawn : FSpec := pure1 fun ds d => ∃ n k : Nat, ds = [.int n, .int k] ∧ d = .int (drawN n k)
def T__law_turn : FSpec := pure1 fun ds d => ∃ w s : Nat, 0 < w ∧ w ≤ 1000 ∧ s ≤ 1000 ∧ ds = [.int w, .int s] ∧ d = .int (tn w s)
def prW (n most : Nat) : Nat := 2 + n % (most - 1)
def prS (n most : Nat) : Nat := 1 + n / 128 % (prW n most - 1)
def prM (n most : Nat) : Nat := 1 + n / 16384 % tn (prW n most) (prS n most)
theorem prW_b {n most : Nat} (h : 2 ≤ most) : 2 ≤ prW n most ∧ prW n most ≤ most := by
  unfold prW
  have := Nat.mod_lt n (show 0 < most - 1 by omega)
  omega
theorem prS_b {n most : Nat} (h : 2 ≤ most) : 1 ≤ prS n most ∧ prS n most < prW n most := by
  have h1 := prW_b (n := n) h
  unfold prS
  have := Nat.mod_lt (n / 128) (show 0 < prW n most - 1 by omega)
  omega
theorem prM_b {n most : Nat} (h : 2 ≤ most) : 1 ≤ prM n most ∧ prM n most ≤ tn (prW n most) (prS n most) := by
  have h1 := prW_b (n := n) h
  unfold prM
  have := Nat.mod_lt (n / 16384) (tn_pos (w := prW n most) (s := prS n most) (by omega))
  omega
def T__law_pair : FSpec := pure1 fun ds d => ∃ n most : Nat, 2 ≤ most ∧ most ≤ 1000 ∧ ds = [.int n, .int most] ∧ d = .tuple [.int (prW n most), .int (prS n most)]
def rowD (w s m : Nat) : PyData := .tuple [.int w, .int s, .int m]
def T__law_row : FSpec := pure1 fun ds d => ∃ n most : Nat, 2 ≤ most ∧ most ≤ 1000 ∧ ds = [.int n, .int most] ∧ d = rowD (prW n most) (prS n most) (prM n most)
structure Row (w s m : Nat) : Prop where
  w1 : w ≤ 1000
  s0 : 1 ≤ s
  sw : s < w
  m0 : 1 ≤ m
  m1 : m ≤ tn w s
theorem Row.w0 {w s m : Nat} (h : Row w s m) : 0 < w := Nat.lt_of_le_of_lt (Nat.zero_le _) h.sw
theorem Row.s1 {w s m : Nat} (h : Row w s m) : s ≤ 1000 := Nat.le_trans (Nat.le_of_lt h.sw) h.w1
theorem Row.mw {w s m : Nat} (h : Row w s m) : m ≤ w := Nat.le_trans h.m1 (tn_le w s)
theorem pr_row {n most : Nat} (h : 2 ≤ most) (h2 : most ≤ 1000) : Row (prW n most) (prS n most) (prM n most) := by
  have a := prW_b (n := n) h
  have b := prS_b (n := n) h
  have c := prM_b (n := n) h
  exact ⟨by omega, b.1, b.2, c.1, c.2⟩
abbrev npD (p : Nat × Nat) : PyData := .tuple [.int p.1, .int p.2]
abbrev ipD (p : Nat × Nat) : Int × Int := (p.1, p.2)
def T_place : FSpec := pure1 fun ds d => ∃ w s m k : Nat, 0 < w ∧ w ≤ 1000 ∧ s ≤ 1000 ∧ ds = [rowD w s m, .int k] ∧ d = .int ((k * s % w : Nat) : Int)
def T_order : FSpec := pureT fun ds fs => ∃ w s m : Nat, Row w s m ∧ ds = [rowD w s m] ∧ fs = (ordL w s m).map nD
def T_gap_after : FSpec := pure1 fun ds d => ∃ w s m k : Nat, Row w s m ∧ k < m ∧ ds = [rowD w s m, .int k] ∧ d = .int (gapN w s m k)
def T_gaps : FSpec := pureT fun ds fs => ∃ w s m : Nat, Row w s m ∧ ds = [rowD w s m] ∧ fs = (gapL w s m).map nD
def T__law_gaps : FSpec := T_gaps
def T_lengths : FSpec := pure1 fun ds d => ∃ w s m : Nat, Row w s m ∧ ds = [rowD w s m] ∧ d = .tuple ((lenL w s m).map nD)
def cntP (w s m : Nat) : List (Nat × Nat) := (lenL w s m).map fun g => (g, (gapL w s m).count g)
def T_counts : FSpec := pure1 fun ds d => ∃ w s m : Nat, Row w s m ∧ ds = [rowD w s m] ∧ d = .tuple ((cntP w s m).map npD)
def T_widest : FSpec := pure1 fun ds d => ∃ w s m : Nat, Row w s m ∧ ds = [rowD w s m] ∧ d = .tuple ((wideL w s m).map nD)
def oD : Option Nat → PyData
  | some n => .int n
  | none => .none
def T_who : FSpec := pure1 fun ds d => ∃ w s m h : Nat, Row w s m ∧ ds = [rowD w s m, .int h] ∧ d = oD (idx w s m h)
def T__law_order : FSpec := pure1 fun ds d => ∃ w s m : Nat, Row w s m ∧ ds = [rowD w s m] ∧ d = .list ((ordP w s m).map npD)

theorem beq_nat {i : Int} (n m : Nat) (h : i = (n : Int)) : (i == (m : Int)) = (n == m) := by
  subst h
  simp only [Bool.beq_eq_decide_eq]
  congr 1
  simp only [eq_iff_iff]
  omega
def T_right : FSpec := pure1 fun ds d => ∃ w s m : Nat, Row w s m ∧ ds = [rowD w s m] ∧ d = npD (rgt w s m)
def T_left : FSpec := pure1 fun ds d => ∃ w s m : Nat, Row w s m ∧ ds = [rowD w s m] ∧ d = npD (lft w s m)
def T_next_point : FSpec := pure1 fun ds d => ∃ w s m k : Nat, Row w s m ∧ k < m ∧ ds = [rowD w s m, .int k] ∧ d = nD (nx w s m k)
def T_jump : FSpec := pure1 fun ds d => ∃ w s m k : Nat, Row w s m ∧ k < m ∧ ds = [rowD w s m, .int k] ∧ d = .int ((nx w s m k : Int) - (k : Int))
theorem atI_lastN {l : List Nat} (h : l ≠ []) : atI (l.map nD) (-1) = some (nD (l.getLastD 0)) := by
  obtain ⟨r, x, rfl⟩ : ∃ r x, l = r ++ [x] := ⟨l.dropLast, l.getLast h, (List.dropLast_concat_getLast h).symm⟩
  rw [List.map_append]
  show atI (r.map nD ++ [nD x]) (-1) = _
  rw [atI_last, List.getLastD_concat]
theorem atI_N {l : List Nat} {i : Nat} (h : i < l.length) : atI (l.map nD) (i : Int) = some (nD (l.getD i 0)) := by
  refine atI_nat ?_
  rw [List.getElem?_map, List.getElem?_eq_getElem h, List.getD_eq_getElem?_getD, List.getElem?_eq_getElem h]
  rfl
theorem lenL_ne {w s m : Nat} (h : Row w s m) : lenL w s m ≠ [] := fun e => by
  have h1 : gapN w s m 0 ∈ lenL w s m := (lenL_mem h.w0 h.m1).mpr ((gapL_mem h.w0 h.m1).mpr ⟨0, h.m0, rfl⟩)
  rw [e] at h1
  cases h1
theorem ordP_getD {w s m i : Nat} (h : Row w s m) (hi : i < m) : ((ordP w s m).map npD)[i]? = some (npD (pl w s ((ordL w s m).getD i 0), (ordL w s m).getD i 0)) := by
  rw [ordP_eq h.w0 h.m1, List.map_map, List.getElem?_map, List.getElem?_eq_getElem (by rw [ordL_len h.w0 h.m1]; exact hi), List.getD_eq_getElem?_getD, List.getElem?_eq_getElem (by rw [ordL_len h.w0 h.m1]; exact hi)]
  rfl
/-! dicts -/
theorem dval_nil (k : Int) : dval [] k = none := rfl
theorem dval_cons (j : Int) (d : PyData) (kvs : List (Int × PyData)) (k : Int) : dval ((j, d) :: kvs) k = if j = k then some d else dval kvs k := by
  unfold dval
  rw [List.find?_cons]
  by_cases h : j = k
  · simp [h]
  · simp [h]
theorem dval_any (kvs : List (Int × PyData)) (k : Int) : (kvs.any fun kv => decide (kv.1 = k)) = (dval kvs k).isSome := by
  induction kvs with
  | nil => rfl
  | cons p r ih =>
    obtain ⟨j, d⟩ := p
    rw [List.any_cons, dval_cons, ih]
    by_cases h : j = k
    · simp [h]
    · simp [h]
theorem dval_app (kvs : List (Int × PyData)) (k : Int) (v : PyData) (j : Int) : dval (kvs ++ [(k, v)]) j = (dval kvs j).or (if k = j then some v else none) := by
  induction kvs with
  | nil => rw [List.nil_append, dval_cons, dval_nil]; simp
  | cons p r ih =>
    obtain ⟨i, d⟩ := p
    rw [List.cons_append, dval_cons, dval_cons, ih]
    split <;> simp
theorem dval_repl (kvs : List (Int × PyData)) (k : Int) (v : PyData) (j : Int) : dval (kvs.map fun kv => if kv.1 = k then (kv.1, v) else kv) j = (dval kvs j).map fun x => if j = k then v else x := by
  induction kvs with
  | nil => rfl
  | cons p r ih =>
    obtain ⟨i, d⟩ := p
    rw [List.map_cons]
    by_cases h : i = k
    · subst h
      simp only [if_true]
      rw [dval_cons, dval_cons, ih]
      by_cases hj : i = j
      · subst hj; simp
      · simp [hj]
    · simp only [if_neg h]
      rw [dval_cons, dval_cons, ih]
      by_cases hj : i = j
      · subst hj; simp [h]
      · simp [hj]
theorem dval_put (kvs : List (Int × PyData)) (k : Int) (v : PyData) (j : Int) : dval (dput kvs k v) j = if j = k then some v else dval kvs j := by
  unfold dput
  rw [dval_any]
  by_cases h : (dval kvs k).isSome = true
  · rw [if_pos h, dval_repl]
    by_cases hj : j = k
    · subst hj
      obtain ⟨x, hx⟩ := Option.isSome_iff_exists.mp h
      simp [hx]
    · simp [hj]
  · rw [if_neg h, dval_app]
    by_cases hj : j = k
    · subst hj
      have : dval kvs j = none := by
        cases q : dval kvs j with
        | none => rfl
        | some x => rw [q] at h; simp at h
      simp [this]
    · have hj' : ¬ k = j := fun z => hj z.symm
      simp [hj, hj']
theorem dmerge_val : ∀ (more kvs : List (Int × PyData)) (j : Int), (more.map (·.1)).Nodup → (∀ k ∈ more.map (·.1), dval kvs k = none) → dval (dmerge kvs more) j = (dval more j).or (dval kvs j)
  | [], kvs, j, _, _ => by simp [dmerge, dval_nil]
  | (k, v) :: more, kvs, j, hn, hd => by
    have hn' := List.nodup_cons.mp hn
    have e : dmerge kvs ((k, v) :: more) = dmerge (dput kvs k v) more := rfl
    rw [e, dmerge_val more (dput kvs k v) j hn'.2 (fun i hi => ?_), dval_put, dval_cons]
    · by_cases hj : j = k
      · subst hj
        have : dval more j = none := by
          cases q : dval more j with
          | none => rfl
          | some x =>
            exfalso
            apply hn'.1
            have h2 : (more.any fun kv => decide (kv.1 = j)) = true := by rw [dval_any, q]; rfl
            obtain ⟨p, hp, e⟩ := List.any_eq_true.mp h2
            exact List.mem_map.mpr ⟨p, hp, by simpa using e⟩
        simp [this]
      · have hj' : ¬ k = j := fun z => hj z.symm
        simp [hj, hj']
    · rw [dval_put, if_neg (fun z => hn'.1 (by rw [← z]; exact hi))]
      exact hd i (List.mem_cons_of_mem _ hi)
theorem dval_ordP {w s m : Nat} (hw : 0 < w) (hm : m ≤ tn w s) (hh : Nat) : dval ((ordP w s m).map fun p => ((p.1 : Int), nD p.2)) hh = (idx w s m hh).map nD := by
  have key : ∀ l : List (Nat × Nat), (∀ p ∈ l, idx w s m p.1 = some p.2) → (∀ k, idx w s m hh = some k → (hh, k) ∈ l) → dval (l.map fun p => ((p.1 : Int), nD p.2)) hh = (idx w s m hh).map nD := by
    intro l
    induction l with
    | nil =>
      intro _ h2
      cases q : idx w s m hh with
      | none => rfl
      | some k => exact absurd (h2 k q) (by simp)
    | cons p r ih =>
      intro h1 h2
      rw [List.map_cons, dval_cons]
      by_cases e : p.1 = hh
      · rw [if_pos (by omega), ← e, h1 p List.mem_cons_self]
        rfl
      · rw [if_neg (by omega)]
        refine ih (fun p hp => h1 p (List.mem_cons_of_mem _ hp)) fun k hk => ?_
        rcases List.mem_cons.mp (h2 k hk) with z | z
        · exact absurd (by rw [← z]) e
        · exact z
  refine key _ (fun p hp => ?_) fun k hk => ?_
  · obtain ⟨h1, h2⟩ := (mem_ordP hw hm).mp hp
    exact (idx_some hw hm).mpr ⟨h1, h2.symm⟩
  · obtain ⟨h1, h2⟩ := (idx_some hw hm).mp hk
    exact (mem_ordP hw hm).mpr ⟨h1, h2.symm⟩
/-! data that may be compared -/
def sh (n : Nat) (d : PyData) : Prop := d.canLay0 = true ∧ d.depth ≤ n
theorem sh_int (n : Nat) (i : Int) : sh n (.int i) := ⟨rfl, Nat.zero_le _⟩
theorem sh_non (n : Nat) : sh n .none := ⟨rfl, Nat.zero_le _⟩
theorem sh_bool (n : Nat) (b : Bool) : sh n (.bool b) := ⟨rfl, Nat.zero_le _⟩
theorem sh_mono {n m : Nat} {d : PyData} (h : sh n d) (hm : n ≤ m) : sh m d := ⟨h.1, Nat.le_trans h.2 hm⟩
theorem sh_all {n : Nat} : ∀ {xs : List PyData}, (∀ x ∈ xs, sh n x) → PyData.canLayAll0 xs = true ∧ PyData.depthAll xs ≤ n
  | [], _ => ⟨rfl, Nat.zero_le _⟩
  | x :: xs, h => by
    obtain ⟨h1, h2⟩ := sh_all (xs := xs) fun y hy => h y (List.mem_cons_of_mem _ hy)
    obtain ⟨h3, h4⟩ := h x List.mem_cons_self
    refine ⟨?_, ?_⟩
    · show (PyData.canLay0 x && PyData.canLayAll0 xs) = true
      rw [h1, h3]
      rfl
    · show max (PyData.depth x) (PyData.depthAll xs) ≤ n
      omega
theorem sh_tup {n : Nat} {xs : List PyData} (h : ∀ x ∈ xs, sh n x) : sh (n + 1) (.tuple xs) := ⟨(sh_all h).1, Nat.succ_le_succ (sh_all h).2⟩
theorem sh_lst {n : Nat} {xs : List PyData} (h : ∀ x ∈ xs, sh n x) : sh (n + 1) (.list xs) := ⟨(sh_all h).1, Nat.succ_le_succ (sh_all h).2⟩
theorem sh_ints {n : Nat} (l : List Int) : sh (n + 1) (.tuple (l.map .int)) := sh_tup fun x hx => by
  obtain ⟨i, _, rfl⟩ := List.mem_map.mp hx
  exact sh_int _ _
theorem sh_nats {n : Nat} (l : List Nat) : sh (n + 1) (.tuple (l.map nD)) := sh_tup fun x hx => by
  obtain ⟨i, _, rfl⟩ := List.mem_map.mp hx
  exact sh_int _ _
theorem sh_npD {n : Nat} (p : Nat × Nat) : sh (n + 1) (npD p) := sh_tup fun y hy => by
  simp only [List.mem_cons, List.not_mem_nil, or_false] at hy
  rcases hy with rfl | rfl <;> exact sh_int _ _
theorem sh_npairs {n : Nat} (l : List (Nat × Nat)) : sh (n + 2) (.tuple (l.map npD)) := sh_tup fun x hx => by
  obtain ⟨i, _, rfl⟩ := List.mem_map.mp hx
  refine sh_tup fun y hy => ?_
  simp only [List.mem_cons, List.not_mem_nil, or_false] at hy
  rcases hy with rfl | rfl <;> exact sh_int _ _
theorem shaped_of {n : Nat} {d : PyData} (h : sh n d) (hn : n ≤ 64) : SeqAt.shaped d = true := by
  unfold SeqAt.shaped
  rw [h.1, decide_eq_true (Nat.le_trans h.2 hn)]
  rfl
theorem eqv_rfl {n : Nat} {d : PyData} (h : sh n d) : PyData.eqv d d = true := SeqAt.eqv_refl d h.1
section
variable {X : Cx} {a b : Expr} {E : En} {O : Own} {pos : Pos}
/-- == and != of data that are the same -/
theorem c_eqT {d : PyData} (ha : EX X a E O (.d d)) (hb : EX X b E O (.d d)) (h : sh 8 d) (hu : X.A.units + 64 < cLine := by assumption) : CX1 X .Eq a b E O true :=
  (c_eqD ha hb (shaped_of h (by decide)) (shaped_of h (by decide)) hu).cast (eqv_rfl h)
theorem c_neF {d : PyData} (ha : EX X a E O (.d d)) (hb : EX X b E O (.d d)) (h : sh 8 d) (hu : X.A.units + 64 < cLine := by assumption) : CX1 X .NotEq a b E O false :=
  (c_neD ha hb (shaped_of h (by decide)) (shaped_of h (by decide)) hu).cast (by rw [eqv_rfl h]; rfl)
end
end Py
namespace Py
open PySem PySem.Spec PyProof.Rows L2
section
variable {X : Cx} {a b e : Expr} {es : List Expr} {E : En} {O : Own} {pos p pos' p' : Pos}
theorem x_abs {i : Int} (hm : X.mg "abs" = none) (ha : EX X a E O (vI i)) (hg : Gl X "abs" := by rfl) (hs : starEach [a] X.env = (false, eval a X.env) :: starEach [] X.env := by rfl) (hpl : (backTo pos (starEach [] X.env)).any (·.1) = false := by rfl) :
    EX X (.Call (.Name "abs" p) [a] [] pos) E O (vI (i.natAbs : Nat)) := x_cb1 call_abs PyProof.Rows.boot_abs (by decide) (by decide) hm ha (fun v H ok hv Q k => by
    obtain rfl := int_of hv
    refine ⟨i, rfl, ?_⟩
    have e : (if i < 0 then -i else i) = (i.natAbs : Int) := by split <;> omega
    rw [e]
    exact k _ H _ _ ⟨rfl, rfl⟩ (.refl ok) (.int _)) hg hs hpl
end
/-! slices of data -/
theorem cutD_init (ds : List PyData) : cutD ds none (some (-1)) = ds.take (ds.length - 1) := by
  unfold cutD
  have e1 : HT.sIx ds.length 0 none = 0 := rfl
  have e2 : HT.sIx ds.length ds.length (some (-1)) = ds.length - 1 := by
    show (if (-1 : Int) < 0 then ((-1 : Int) + ((ds.length : Nat) : Int)).toNat else min (-1 : Int).toNat ds.length) = _
    rw [if_pos (by decide)]
    omega
  rw [e1, e2, List.drop_zero, Nat.sub_zero]
theorem cutD_from (ds : List PyData) (k : Nat) : cutD ds (some (k : Int)) none = ds.drop k := by
  unfold cutD
  rw [HT.sIx_nat]
  have e : HT.sIx ds.length ds.length none = ds.length := rfl
  rw [e]
  rcases Nat.le_total k ds.length with h | h
  · rw [Nat.min_eq_left h, List.take_of_length_le (by rw [List.length_drop]; omega)]
  · rw [Nat.min_eq_right h, Nat.sub_self, List.take_zero, List.drop_of_length_le h]
theorem cutD_to (ds : List PyData) (k : Nat) : cutD ds none (some (k : Int)) = ds.take k := by
  unfold cutD
  have e1 : HT.sIx ds.length 0 none = 0 := rfl
  rw [HT.sIx_nat, e1, List.drop_zero, Nat.sub_zero]
  rcases Nat.le_total k ds.length with h | h
  · rw [Nat.min_eq_left h]
  · rw [Nat.min_eq_right h, List.take_of_length_le h, List.take_of_length_le (Nat.le_refl _)]
end Py
namespace Py
open PySem PySem.Spec PyProof.Rows L2
section
variable {X : Cx} {a b o e : Expr} {es : List Expr} {E : En} {O : Own} {pos p pos' p' : Pos}
/-! ### own lists: list(a tuple), xs[i], xs[i] = y -/
theorem g_listT {ds : List PyData} (hm : X.mg "list" = none) (ha : EX X a E O (vT ds)) (hg : Gl X "list" := by rfl) (hs : starEach [a] X.env = (false, eval a X.env) :: starEach [] X.env := by rfl) (hpl : (backTo pos (starEach [] X.env)).any (·.1) = false := by rfl) : EG X (.Call (.Name "list" p) [a] [] pos) E O fun r O' => ∃ q, r = .v (.ref q) ∧ O' = (q, .lst ds) :: O ∧ q ∉ O.map (·.1) := fun σ H R Q k => we_of (pe_callTy call_list_of hg hm PyProof.Rows.boot_list WA.pa (by decide) (by decide) hs hpl) (by
  refine (a_cons ha a_nil hs : EA X [a] E O [_]) σ H R _ fun us H1 rs O1 ⟨e1, e2⟩ s1 z1 => ?_
  subst e1; subst e2
  cases z1 with
  | cons z1 z2 =>
    cases z2
    obtain ⟨l, vs, rfl, h1, h2⟩ := tup_of z1
    refine ⟨l, vs, rfl, .inr (.inl (rd_sub (vis_sub _ _) h1)), fun q hq => ?_⟩
    have s2 := Stp.own (o := .lst ds) (ho := .lst vs) s1.ok hq ⟨vs, upd_same, dpAll_sub (fun x u hx => by
      obtain ⟨n, hx⟩ := vis_some hx
      refine vis_of (fun hm => ?_) (by rw [upd_ne (ne_of_none hx hq)]; exact hx)
      rcases List.mem_cons.mp hm with hm | hm
      · rw [hm, hq] at hx
        cases hx
      · exact n hm) _ _ h2⟩
    exact k _ _ _ _ ⟨q, rfl, rfl, s1.ok.fresh hq⟩ (s1.trans s2) rfl)
theorem x_ixO {q : Addr} {ds : List PyData} {i : Int} {d : PyData} (ha : EX X a E O (.v (.ref q))) (hb : EX X b E O (vI i)) (hO : (q, .lst ds) ∈ O) (h : atI ds i = some d) (hs : PlainIx b := by exact fun _ _ => rfl) : EX X (.Subscript a b pos) E O (.d d) :=
  x_op (pe_ix ix_list WE.pe WE.pe hs) ha hb fun x y H ok hx hy Q k => by
    obtain rfl : x = .ref q := hx
    obtain ⟨vs, h1, h2⟩ := ok.is _ hO
    obtain ⟨v, h3, h4⟩ := atI_map h2 h
    exact ⟨q, vs, i, v, rfl, int_of hy, SqL.of h1, h3, k _ H _ _ ⟨rfl, rfl⟩ (.refl ok) h4⟩
theorem dpa_set {W : Hp} {v : V} {d : PyData} (h : Dq W v d) : ∀ {vs : List V} {ds : List PyData}, DqAll W vs ds → ∀ j : Nat, DqAll W (vs.set j v) (ds.set j d)
  | _, _, .nil, _ => .nil
  | _, _, .cons _ t, 0 => .cons h t
  | _, _, .cons h0 t, j + 1 => .cons h0 (dpa_set h t j)
theorem s_setL {D : PD} {q : Addr} {ds : List PyData} {i : Int} {j : Nat} {d : PyData} (ho : EX X o E O (.v (.ref q))) (ha : EX X a E O (vI i)) (hb : EX X b E O (.d d)) (hO : (q, .lst ds) ∈ O) (hj : ixN ds.length i = some j)
    (h : D.nx E (setO O q (.lst (ds.set j d))))
    (hs : swapsWithSole [.Subscript o a p] b pos.line X.env = pure false := by rfl) (hw : swappedStores [.Subscript o a p] b X.env = pure none := by rfl)
    (h1 : (assignEach [.Subscript o a p] X.env).map (·.2) = [assign (.Subscript o a p) X.env] := by rfl)
    (hg : ∀ v, assign (.Subscript o a p) X.env v = (do
      let ov ← holding [v] (eval o X.env)
      let iv ← holding [v, ov] (eval a X.env)
      standAt p
      holding [v, ov, iv] (setItem ov iv v)
      release [v, ov, iv] []) := by intro _; rfl) : SG X (.Assign [.Subscript o a p] b pos) E O D := fun σ H R D' rf => ws_of (ps_asg WE.pe (pg_sub WE.pe WE.pe set_list hg) hs hw h1) (by
  refine hb σ H R _ fun u H1 r1 O1 ⟨e1, e2⟩ s1 z1 => ?_
  subst e1; subst e2
  refine ho σ H1 (R.step s1) _ fun v H2 r2 O2 ⟨e1, e2⟩ s2 z2 => ?_
  subst e1; subst e2
  obtain rfl : v = .ref q := z2
  refine ha σ H2 (R.step (s1.trans s2)) _ fun v H3 r3 O3 ⟨e1, e2⟩ s3 z3 => ?_
  subst e1; subst e2
  obtain rfl := int_of z3
  obtain ⟨vs, g1, g2⟩ := s3.ok.is _ hO
  have z1' := (s2.trans s3).sv z1
  refine ⟨q, vs, i, j, rfl, rfl, g1, by rw [dpa_len g2]; exact hj, ?_⟩
  have s4 := Stp.put (o := .lst (ds.set j d)) (ho := .lst (vs.set j u)) s3.ok (List.mem_map_of_mem hO) (fun x e => by rw [g1] at e; cases e) ⟨_, upd_same, dpa_set z1' g2 j⟩
  have s14 := ((s1.trans s2).trans s3).trans s4
  exact rf.nx σ _ E _ h s14 (R.step s14))
end
theorem eqv_natsL (l r : List Nat) : PyData.eqv (.tuple (l.map nD)) (.tuple (r.map nD)) = decide (l = r) := by
  show PyData.eqvAll (l.map nD) (r.map nD) = _
  induction l generalizing r with
  | nil => cases r <;> rfl
  | cons a l ih =>
    cases r with
    | nil => rfl
    | cons b r =>
      show (PyData.eqv (nD a) (nD b) && PyData.eqvAll (l.map nD) (r.map nD)) = _
      rw [ih]
      have e : PyData.eqv (nD a) (nD b) = decide (a = b) := by
        show ((a : Int) == (b : Int)) = _
        rw [Bool.eq_iff_iff]
        simp
        omega
      rw [e, Bool.eq_iff_iff]
      simp
theorem shp_nats (l : List Nat) : SeqAt.shaped (.tuple (l.map nD)) = true := shaped_of (n := 1) (sh_nats (n := 0) l) (by decide)
section
variable {X : Cx} {a b : Expr} {E : En} {O : Own}
theorem c_eqL {l r : List Nat} (ha : EX X a E O (vT (l.map nD))) (hb : EX X b E O (vT (r.map nD))) (hu : X.A.units + 64 < cLine := by assumption) : CX1 X .Eq a b E O (decide (l = r)) := (c_eqD ha hb (shp_nats l) (shp_nats r) hu).cast (eqv_natsL l r)
theorem c_neL {l r : List Nat} (ha : EX X a E O (vT (l.map nD))) (hb : EX X b E O (vT (r.map nD))) (hu : X.A.units + 64 < cLine := by assumption) : CX1 X .NotEq a b E O (!decide (l = r)) := (c_neD ha hb (shp_nats l) (shp_nats r) hu).cast (by rw [eqv_natsL])
end
end Py
namespace Py
open PySem PySem.Spec PyProof.Rows L2
section
variable {X : Cx} {a b c o e : Expr} {es : List Expr} {E : En} {O : Own} {pos p pos' p' : Pos}
/-! ### is True -/
theorem c_isBl {k k' : Bool} (ha : EX X a E O (vB k)) (hb : EX X b E O (vB k')) : CX1 X .Is a b E O (decide (k = k')) :=
  c_op op_is_bl ha hb fun x y H ok hx hy Q q => ⟨k, k', bl_of hx, bl_of hy, q _ H _ O ⟨rfl, rfl⟩ (.refl ok) (.bl _)⟩
theorem c_notBl {k k' : Bool} (ha : EX X a E O (vB k)) (hb : EX X b E O (vB k')) : CX1 X .IsNot a b E O (!decide (k = k')) :=
  c_op op_isnot_bl ha hb fun x y H ok hx hy Q q => ⟨k, k', bl_of hx, bl_of hy, q _ H _ O ⟨rfl, rfl⟩ (.refl ok) (.bl _)⟩
theorem c_eqB {k k' : Bool} (ha : EX X a E O (vB k)) (hb : EX X b E O (vB k')) (hu : X.A.units + 64 < cLine := by assumption) : CX1 X .Eq a b E O (k == k') := (c_eqD ha hb rfl rfl hu).cast (by cases k <;> cases k' <;> rfl)
theorem c_neB {k k' : Bool} (ha : EX X a E O (vB k)) (hb : EX X b E O (vB k')) (hu : X.A.units + 64 < cLine := by assumption) : CX1 X .NotEq a b E O (!(k == k')) := (c_neD ha hb rfl rfl hu).cast (by cases k <;> cases k' <;> rfl)
/-! ### isinstance -/
def tyD : PyData → String
  | .none => "NoneType"
  | .bool _ => "bool"
  | .int _ => "int"
  | .str _ => "str"
  | .list _ => "list"
  | .tuple _ => "tuple"
  | .dict _ => "dict"
def isiD (d : PyData) (T : String) : Bool := tyD d == T || (tyD d == "bool" && T == "int")
theorem tyx_of {K : PySem.W.Frag} {W : Hp} {v : V} {d : PyData} (h : Dq W v d) : TyX K W v (.type (tyD d)) := by
  cases h with
  | non => exact .base .non
  | bl b => exact .base (.bl b)
  | int i => exact .base (.int i)
  | str x => exact .base (.str x)
  | lst h1 h2 => exact .base (.lst h1)
  | tup h1 h2 =>
    rcases h1 with h1 | ⟨o, h1⟩
    · exact .base (.tup h1)
    · exact .fTuple h1
theorem x_tyN {x : Str} {T : String} (hm : X.mg x = none) (hv : bootBuiltins x = some (.type T)) (hg : Gl X x := by rfl) (hn : x ≠ "__name__" := by decide) (hd : (x == ("__debug__" : Str)) = false := by decide) : EX X (.Name x pos) E O (.v (.ty T)) := fun σ H R Q q => we_of (pe_bltn (v := .ty T) hg hm hv rfl hn hd) (q _ H _ O ⟨rfl, rfl⟩ (.refl R.own) rfl)
theorem x_isi {d : PyData} {x : Str} {T : String} {bb : Bool} (hm : X.mg "isinstance" = none) (hm2 : X.mg x = none) (ha : EX X a E O (.d d)) (hv : bootBuiltins x = some (.type T)) (hk : PySem.W.kitOne X.K (.type (tyD d)) (.type T) = some bb) (hg2 : Gl X x := by rfl) (hn : x ≠ "__name__" := by decide) (hd : (x == ("__debug__" : Str)) = false := by decide) (hg : Gl X "isinstance" := by rfl)
    (hs : starEach [a, .Name x p'] X.env = (false, eval a X.env) :: starEach [.Name x p'] X.env := by rfl) (hs2 : starEach [.Name x p'] X.env = (false, eval (.Name x p') X.env) :: starEach [] X.env := by rfl) (hpl : (backTo pos (starEach [.Name x p'] X.env)).any (·.1) = false := by rfl) :
    EX X (.Call (.Name "isinstance" p) [a, .Name x p'] [] pos) E O (vB bb) := g_cb call_isi hg hm PyProof.Rows.boot_isinstance (a_cons ha (a_cons (x_tyN hm2 hv hg2 hn hd) a_nil hs2) hs) (fun vs H ok hvs Q k => by
    cases hvs with
    | cons z1 z2 =>
      cases z2 with
      | cons z2 z3 =>
        cases z3
        obtain rfl : _ = V.ty T := z2
        exact ⟨_, _, _, _, bb, rfl, .ty T, tyx_of (dp_sub (vis_sub _ _) _ _ z1), hk, k _ H _ _ ⟨rfl, rfl⟩ (.refl ok) (.bl _)⟩) (by decide) (by decide) hs hpl
def kit0 (t T : String) : Option Bool := if (Value.type t == Value.type T) = true then some true else if PySem.W.kitMeta T = true then (fastBuiltinMro t).map (·.contains (.type T)) else none
theorem kit_ty {K : PySem.W.Frag} (t T : String) : PySem.W.kitOne K (.type t) (.type T) = kit0 t T := rfl
theorem kit_int {K : PySem.W.Frag} : ∀ d : PyData, PySem.W.kitOne K (.type (tyD d)) (.type "int") = some (isiD d "int")
  | .none => (show kit0 "NoneType" "int" = some false by decide +kernel)
  | .bool _ => (show kit0 "bool" "int" = some true by decide +kernel)
  | .int _ => (show kit0 "int" "int" = some true by decide +kernel)
  | .str _ => (show kit0 "str" "int" = some false by decide +kernel)
  | .list _ => (show kit0 "list" "int" = some false by decide +kernel)
  | .tuple _ => (show kit0 "tuple" "int" = some false by decide +kernel)
  | .dict _ => (show kit0 "dict" "int" = some false by decide +kernel)
theorem kit_bool {K : PySem.W.Frag} : ∀ d : PyData, PySem.W.kitOne K (.type (tyD d)) (.type "bool") = some (isiD d "bool")
  | .none => (show kit0 "NoneType" "bool" = some false by decide +kernel)
  | .bool _ => (show kit0 "bool" "bool" = some true by decide +kernel)
  | .int _ => (show kit0 "int" "bool" = some false by decide +kernel)
  | .str _ => (show kit0 "str" "bool" = some false by decide +kernel)
  | .list _ => (show kit0 "list" "bool" = some false by decide +kernel)
  | .tuple _ => (show kit0 "tuple" "bool" = some false by decide +kernel)
  | .dict _ => (show kit0 "dict" "bool" = some false by decide +kernel)
theorem kit_tuple {K : PySem.W.Frag} : ∀ d : PyData, PySem.W.kitOne K (.type (tyD d)) (.type "tuple") = some (isiD d "tuple")
  | .none => (show kit0 "NoneType" "tuple" = some false by decide +kernel)
  | .bool _ => (show kit0 "bool" "tuple" = some false by decide +kernel)
  | .int _ => (show kit0 "int" "tuple" = some false by decide +kernel)
  | .str _ => (show kit0 "str" "tuple" = some false by decide +kernel)
  | .list _ => (show kit0 "list" "tuple" = some false by decide +kernel)
  | .tuple _ => (show kit0 "tuple" "tuple" = some true by decide +kernel)
  | .dict _ => (show kit0 "dict" "tuple" = some false by decide +kernel)
theorem kit_str {K : PySem.W.Frag} : ∀ d : PyData, PySem.W.kitOne K (.type (tyD d)) (.type "str") = some (isiD d "str")
  | .none => (show kit0 "NoneType" "str" = some false by decide +kernel)
  | .bool _ => (show kit0 "bool" "str" = some false by decide +kernel)
  | .int _ => (show kit0 "int" "str" = some false by decide +kernel)
  | .str _ => (show kit0 "str" "str" = some true by decide +kernel)
  | .list _ => (show kit0 "list" "str" = some false by decide +kernel)
  | .tuple _ => (show kit0 "tuple" "str" = some false by decide +kernel)
  | .dict _ => (show kit0 "dict" "str" = some false by decide +kernel)
end
end Py
namespace Py
open PySem PySem.Spec PyProof.Rows L2
section
variable {X : Cx} {a b c o e : Expr} {es : List Expr} {E : En} {O : Own} {pos p pos' p' : Pos}
/-- both ways of an if meet in a state told by a thing of one's own -/
theorem sb_ifP {τ : Type} {D : PD} {as bs rest : List Stmt} {k : Bool} (E1 : τ → En) (O1 : τ → Own) (I : τ → Prop) (hc : ET X c E O k) (h1 : k = true → SB X as E O ⟨fun E' O' => ∃ t, I t ∧ Ag (E1 t) E' ∧ O' = O1 t, D.rt, D.bk, D.ct⟩) (h2 : k = false → SB X bs E O ⟨fun E' O' => ∃ t, I t ∧ Ag (E1 t) E' ∧ O' = O1 t, D.rt, D.bk, D.ct⟩) (h : ∀ t, I t → SB X rest (E1 t) (O1 t) D) : SB X (.If c as bs pos :: rest) E O D := by
  refine sb_cons (s_if hc (fun z => ?_) fun z => ?_)
  · refine fun σ H R D' rf => h1 z σ H R D' ⟨?_, rf.rt, rf.bk, rf.ct⟩
    rintro σ' H' E' O' ⟨t, it, ag, rfl⟩ s R'
    exact rf.nx σ' H' E' _ (sb_ag ag (h t it)) s R'
  · refine fun σ H R D' rf => h2 z σ H R D' ⟨?_, rf.rt, rf.bk, rf.ct⟩
    rintro σ' H' E' O' ⟨t, it, ag, rfl⟩ s R'
    exact rf.nx σ' H' E' _ (sb_ag ag (h t it)) s R'
end
end Py
/-! ### enumerate of a tuple, of a text -/
namespace PySem
set_option maxHeartbeats 1000000 in
theorem meets_enum_tup (t : Addr) (items : Array Value) :
    Meets (Builtin.«enumerate.__new__» ⟨[.type "enumerate", .ref t], []⟩) (fun _ R s => s.heap.IsTuple t items ∧
      R (.ok (.ret (.ref (s.heap.push { cls := .type "tuple_iterator", data := .fields #[.ref t, .int 0 0] }).objs.size)))
        { s with heap := (s.heap.push { cls := .type "tuple_iterator", data := .fields #[.ref t, .int 0 0] }).push { cls := .type "enumerate", data := .fields #[.none, .bool false, .ref s.heap.objs.size, rawInt 0, .none, .none] } }) :=
  .of_wp fun prog w A R s h => by
    obtain ⟨hp, g, d, tk, os⟩ := s
    obtain ⟨h1, h⟩ := h
    have sub := sub_enumerate
    have begin_ : ∀ {A' : Around} {E : Value → Shared → Prop} {Q : Value → Shared → Prop}, Q (.ref hp.objs.size) ⟨hp.push { cls := .type "tuple_iterator", data := .fields #[.ref t, .int 0 0] }, g, d, tk, os⟩ → wpAny (model prog w) A' (pyIter (.ref t)) Q E ⟨hp, g, d, tk, os⟩ :=
      fun q => (begins_tuple t items).iter prog w _ _ ⟨hp, g, d, tk, os⟩ _ h1 q
    wp_walk using begin_
    refine wpAny_stack_any fun st => wpAny_pure ?_
    split
    · rename_i c _ _ _ _ _
      cases (c == Value.type "enumerate") <;> (wp_walk using begin_; exact ⟨_, rfl, h⟩)
    · wp_walk using begin_
      exact ⟨_, rfl, h⟩
theorem call_enum_tup {prog : Program} {w : World} {A : Around} {E : Value → Shared → Prop} {s : Shared} {t : Addr} {items : Array Value} {Q : Value → Shared → Prop} (ht : s.heap.IsTuple t items)
    (h : ∀ h', IsEnum h' (s.heap.objs.size + 1) s.heap.objs.size 0 .none → h'.IsTupleIter s.heap.objs.size t 0 → (∀ b o, s.heap.get? b = some o → h'.get? b = some o) → Q (.ref (s.heap.objs.size + 1)) { s with heap := h' }) :
    wpAny (model prog w) A (call (.type "enumerate") [.ref t]) Q E s := by
  refine callType_new F.called_enumerate (by decide) (F.typeCall_enumerate_1 _) (F.newCall_enumerate_1 _) (fun obj => F.args_object_init_2 obj _) F.entry_enumerate_new (meets_enum_tup t items) ⟨ht, ?_⟩
  have hz : (s.heap.push { cls := .type "tuple_iterator", data := .fields #[.ref t, .int 0 0] }).objs.size = s.heap.objs.size + 1 := Heap.size_push ..
  have he := Heap.get?_push_size (s.heap.push { cls := .type "tuple_iterator", data := .fields #[.ref t, .int 0 0] }) (o := { cls := .type "enumerate", data := .fields #[.none, .bool false, .ref s.heap.objs.size, rawInt 0, .none, .none] }) rfl
  show _ ∧ _
  rw [hz] at he ⊢
  exact ⟨⟨_, he, rfl⟩, h _ he ⟨_, Heap.get?_push_of_some _ (Heap.get?_push_size _ rfl), rfl, rfl⟩ fun b o x => Heap.get?_push_of_some _ (Heap.get?_push_of_some _ x)⟩
end PySem
namespace Py
open PySem PySem.Spec PyProof.Rows L2
def ItG (n : Nat) (val : Nat → V) (Hc : Hp → Prop) : It := ⟨fun i H => Hc H ∧ i < n, fun i H v H' => ∃ T, v = .ref T ∧ H T = none ∧ H' = upd H T (.tup [.int (i : Nat), val i]), fun i H => Hc H ∧ i = n⟩
theorem turn_G {P : Program} {w : World} {K : PySem.W.Frag} {elts : List Expr} {kk : Nat} {tpos : Pos} {e it : Addr} (hne : e ≠ it) {n : Nat} {val : Nat → V} {Hc : Hp → Prop} {Si : Nat → Heap → Prop} (hobj : ∀ i h, Si i h → ∃ o, h.get? it = some o ∧ ∀ v, o.data ≠ .cell v) (hkeep : ∀ i h h', Si i h → (∀ o, h.get? it = some o → h'.get? it = some o) → Si i h')
    (hD : ∀ (X : Cx) (pins : List (Addr × Obj)) (σ : L2.St) (H : Hp) (s : Shared), X.prog = P → X.w = w → X.K = K → X.calm = true → Inv X pins σ H s → Hc H → ∃ (fp : List Addr) (Pv : Nat → Value → Prop) (Sx : Heap → Prop), e ∉ fp ∧ Draws P w X.A.in1 it fp n Pv (fun i h => Si i h ∧ Sx h) ∧ Sx s.heap ∧ ∀ i u, i < n → Pv i u → RelV (val i) u) :
    Turn P w K (.Tuple elts kk tpos) (ItG n val Hc) [e, it] e (fun i h => (∃ old, IsEnum h e it ((i : Nat) : Int) old) ∧ Si i h) where
  mem := List.mem_cons_self
  obj := fun i h ⟨⟨old, h1⟩, h2⟩ b hb => by
    rcases List.mem_cons.mp hb with rfl | z
    · exact ⟨_, h1, fun v q => nomatch q⟩
    · rw [List.mem_singleton.mp z]
      exact hobj i h h2
  keep := fun i h h' ⟨⟨old, h1⟩, h2⟩ k => ⟨⟨old, k e List.mem_cons_self _ h1⟩, hkeep i h h' h2 fun o z => k it (List.mem_cons_of_mem _ List.mem_cons_self) o z⟩
  item := by
    intro X hP hw hK hc i pins s σ H E I hf ⟨⟨old, h1⟩, h2⟩ ⟨hC, hi⟩
    obtain ⟨fp, Pv, Sx, nf, D, hx, hv⟩ := hD X pins σ H s hP hw hK hc I hC
    subst hP hw hK
    obtain ⟨oi, hoi, _⟩ := hobj i _ h2
    have le := Heap.lt_size h1
    have li := Heap.lt_size hoi
    refine wpAny_pyNext_enum_itemD D h1 ⟨h2, hx⟩ hi hne nf fun x h' tk px out st' new _ kept => ?_
    refine ⟨_, rfl, wpAny_letOwnedTupleGo_enum (s := { s with heap := h', toks := tk + 1 }) out fun h3 en sb => ?_⟩
    have new3 : h3.get? s.heap.objs.size = some { cls := .type "tuple", data := .seq #[.int i tk, x] } := (sb.2 _ (Nat.ne_of_gt le)).trans new
    have ok : ObjOk X.prog X.w (upd H s.heap.objs.size (.tup [.int (i : Nat), val i])) h3 s.heap.objs.size (.tup [.int (i : Nat), val i]) := ⟨by show 2 ≤ sizeLine; decide, [.int i tk, x], .cons ⟨_, rfl⟩ (.cons (hv i x hi px) .nil), ⟨_, new3, rfl, _, rfl⟩⟩
    have J : Inv X pins σ (upd H s.heap.objs.size (.tup [.int (i : Nat), val i])) { s with heap := h3, toks := tk + 1 } :=
      I.turnedNew (ch := [e, it]) (fun b o nb z => (sb.2 b fun q => nb (by rw [q]; exact List.mem_cons_self)).trans (kept b o (fun q => nb (by rw [q]; exact List.mem_cons_self)) (fun q => nb (by rw [q]; exact List.mem_cons_of_mem _ List.mem_cons_self)) z)) hf (Nat.le_refl _) ok
    refine ⟨.ref s.heap.objs.size, _, J, rfl, ⟨_, rfl, I.hok.fresh (Nat.le_refl _), rfl⟩, ⟨⟨x, ?_⟩, hkeep _ _ _ st'.1 fun o z => (sb.2 it (Ne.symm hne)).trans z⟩, fun b hb => ?_⟩
    · rw [show (((i + 1 : Nat) : Nat) : Int) = (i : Int) + 1 by omega]
      exact en
    · have lb : b < s.heap.objs.size := by
        rcases List.mem_cons.mp hb with rfl | z
        · exact le
        · rw [List.mem_singleton.mp z]; exact li
      rw [upd_ne (Nat.ne_of_lt lb)]
      exact (hf b hb).1
  done := by
    intro X hP hw hK hc i pins s σ H E I hf ⟨⟨old, h1⟩, h2⟩ ⟨hC, hi⟩
    obtain ⟨fp, Pv, Sx, nf, D, hx, hv⟩ := hD X pins σ H s hP hw hK hc I hC
    subst hP hw hK
    obtain ⟨f0, f1, f2, f3, f4, f5⟩ := hf it (List.mem_cons_of_mem _ List.mem_cons_self)
    subst hi
    exact wpAny_pyNext_enum_endD D h1 ⟨h2, hx⟩ fun h' eb => ⟨rfl, I.turned (t' := s.toks) (fun b o hb z => eb b o hb z) f0 f1 f3 f4 f5⟩
  self := fun A i s Q E ⟨⟨_, h1⟩, _⟩ q => wpAny_pyIter_enum h1 q
section
variable {X : Cx} {a b c o e : Expr} {es : List Expr} {E : En} {O : Own} {pos p pos' p' apos : Pos}
def iEnumT (K : PySem.W.Frag) (ta : TA) : TI := fun σ H R => ta σ H fun vs H1 => ∃ (q : Addr) (xs : List V), vs = [.ref q] ∧ SqT K H1 q xs ∧ R (ItG xs.length (fun i => xs.getD i .non) fun H => SqT K H q xs) H1
theorem pi_enumT {ta : TA} {tpos : Pos} {elts : List Expr} {kk : Nat} (hg : Gl X "enumerate") (hm : X.mg "enumerate" = none) (ha : PA X [e] ta) (hs : starEach [e] X.env = [(false, eval e X.env)] := by rfl) :
    PI X (.Tuple elts kk tpos) (.Call (.Name "enumerate" p) [e] [] pos) (iEnumT X.K ta) := by
  refine ⟨fun pins s σ H R I h => ?_⟩
  refine Call_ (ld_blt I hg hm boot_enumerate (PyProof.Rows.callWith_type1 (thn (ha.run pos pins s σ H _ I h) fun us s1 ⟨vs, H1, I1, r1, q, xs, ex, hq, k⟩ => ?_) hs rfl))
  subst ex
  obtain ⟨u, rfl, ru⟩ := r1.one
  obtain rfl : u = Value.ref q := ru
  obtain ⟨its, rv, pt, hz⟩ := I1.tuple hq
  have ql : q < s1.heap.objs.size := by obtain ⟨_, z, _⟩ := pt; exact Heap.lt_size z
  refine call_enum_tup (show s1.heap.IsTuple q its.toArray from pt) fun h' he hit hk => wpAny_pyIter_enum he ?_
  refine ⟨s1.heap.objs.size + 1, [s1.heap.objs.size + 1, s1.heap.objs.size], _, _, H1, rfl, I1.kept (t' := s1.toks) hk, turn_G (Si := fun i h => h.IsTupleIter s1.heap.objs.size q i) (Nat.succ_ne_self _) ?_ ?_ ?_, ⟨⟨.none, he⟩, hit⟩, fun b hb => ?_, k⟩
  · rintro i h ⟨o, z1, _, z3⟩
    exact ⟨o, z1, fun v z => by rw [z3] at z; cases z⟩
  · exact fun i h h' st k => st.at fun o z => k o z
  · intro Y pins' σ' H' s' hP hw hK hc J hC
    rw [← hK] at hC
    obtain ⟨its', rv', pt', _⟩ := J.tuple hC
    have hl := rv'.length
    refine ⟨[s1.heap.objs.size, q], fun i v => its'.toArray[i]? = some v, fun h => h.IsTuple q its'.toArray, fun z => ?_, ?_, pt', fun i u hi hu => ?_⟩
    · rcases List.mem_cons.mp z with z | z
      · exact Nat.succ_ne_self _ z
      · rw [List.mem_singleton] at z
        exact absurd ql (by rw [← z]; exact Nat.not_lt.mpr (Nat.le_succ _))
    · rw [← hP, ← hw, hl, ← List.size_toArray]
      exact Draws.tuple (A := Y.A.in1) (J.ok.hd hc) _ q (Nat.ne_of_lt ql) its'.toArray
    · have hu : its'.toArray[i]? = some u := hu
      rw [List.getElem?_toArray] at hu
      have hi2 : i < its'.length := by omega
      rw [List.getElem?_eq_getElem hi2] at hu
      cases hu
      obtain ⟨u2, z1, z2⟩ := rv'.get (List.getElem?_eq_getElem hi)
      rw [List.getElem?_eq_getElem hi2] at z1
      cases z1
      rw [List.getD_eq_getElem?_getD, List.getElem?_eq_getElem hi]
      exact z2
  · have hle : s1.heap.objs.size ≤ b := by
      rcases List.mem_cons.mp hb with rfl | z
      · exact Nat.le_succ _
      · rw [List.mem_singleton.mp z]
        exact Nat.le_refl _
    exact I1.fpOk hle (I1.hok.fresh hle)
theorem it_enumT {elts : List Expr} {kk : Nat} {tpos : Pos} {ds : List PyData} (hm : X.mg "enumerate" = none) (ha : EX X a E O (vT ds)) (hg : Gl X "enumerate" := by rfl) (hs : starEach [a] X.env = [(false, eval a X.env)] := by rfl) :
    IT X (.Tuple elts kk tpos) (.Call (.Name "enumerate" p) [a] [] pos) E O (List.range ds.length) (fun i => vT [.int (i : Nat), ds.getD i .none]) := ⟨_, pi_enumT hg hm WA.pa hs, fun σ H R Q q => by
  refine (a_cons ha a_nil hs : EA X [a] E O [_]) σ H R _ fun us H1 rs O1 ⟨e1, e2⟩ s z1 => ?_
  subst e1; subst e2
  cases z1 with
  | cons z1 z2 =>
    cases z2
    obtain ⟨l, vs, rfl, h1, h2⟩ := tup_of z1
    have hl := dpa_len h2
    have held : ∀ {O' : Own} {H' : Hp}, Stp X.K _ H1 O' H' → SqT X.K H' l vs := fun s1 => .inl (rd_sub (vis_sub _ _) (rd_sub s1.vis h1))
    refine ⟨l, vs, rfl, .inl (rd_sub (vis_sub _ _) h1), q _ H1 s ⟨fun i O' H' s1 hi => ?_, fun i O' H' x H2 s1 hi y => ?_, fun O' H' s1 => ?_⟩⟩
    · exact ⟨held s1, by rw [hl]; simpa using hi⟩
    · obtain ⟨T, rfl, hT, rfl⟩ := y
      have hi' : i < vs.length := by rw [hl]; simpa using hi
      obtain ⟨d, h3, h4⟩ := dpa_atV h2 (List.getElem?_eq_getElem hi')
      have s2 := Stp.laid (o := .tup [.int (i : Nat), vs.getD i .non]) s1.ok hT
      refine ⟨s2, ?_⟩
      rw [List.getElem_range, List.getD_eq_getElem?_getD, h3]
      refine .tup (.inl (vis_laid s1.ok hT)) (.cons (.int _) (.cons (dp_sub s2.vis _ _ (dp_sub s1.vis _ _ ?_)) .nil))
      show Dq _ (vs.getD i .non) d
      rw [List.getD_eq_getElem?_getD, List.getElem?_eq_getElem hi']
      exact h4
    · exact ⟨held s1, by rw [List.length_range, hl]⟩⟩
/-! of a text -/
def chS (x : Str) (i : Nat) : Str := ⟨#[x.cps.toList.getD i 0]⟩
def iEnumS (ta : TA) : TI := fun σ H R => ta σ H fun vs H1 => ∃ x : Str, vs = [.str x] ∧ R (ItG x.length (fun i => .str (chS x i)) fun _ => True) H1
theorem pi_enumS {ta : TA} {tpos : Pos} {elts : List Expr} {kk : Nat} (hg : Gl X "enumerate") (hm : X.mg "enumerate" = none) (ha : PA X [e] ta) (hs : starEach [e] X.env = [(false, eval e X.env)] := by rfl) :
    PI X (.Tuple elts kk tpos) (.Call (.Name "enumerate" p) [e] [] pos) (iEnumS ta) := by
  refine ⟨fun pins s σ H R I h => ?_⟩
  refine Call_ (ld_blt I hg hm boot_enumerate (PyProof.Rows.callWith_type1 (thn (ha.run pos pins s σ H _ I h) fun us s1 ⟨vs, H1, I1, r1, x, ex, k⟩ => ?_) hs rfl))
  subst ex
  obtain ⟨u, rfl, ru⟩ := r1.one
  obtain ⟨t, rfl⟩ : ∃ t, u = Value.str x t := ru
  refine call_enumerate_str fun h' he hit _ hk => wpAny_pyIter_enum he ?_
  refine ⟨s1.heap.objs.size + 1, [s1.heap.objs.size + 1, s1.heap.objs.size], _, _, H1, rfl, I1.kept (t' := s1.toks) hk, turn_G (Si := fun i h => h.IsStrIter s1.heap.objs.size (strIterType x) x t i) (Nat.succ_ne_self _) ?_ ?_ ?_, ⟨⟨.none, he⟩, hit⟩, fun b hb => ?_, k⟩
  · rintro i h ⟨o, z1, _, z3⟩
    exact ⟨o, z1, fun v z => by rw [z3] at z; cases z⟩
  · rintro i h h' ⟨o, z1, z2, z3⟩ k
    exact ⟨o, k o z1, z2, z3⟩
  · intro Y pins' σ' H' s' hP hw hK hc J hC
    have D := Draws.text (prog := X.prog) (w := X.w) (A := Y.A.in1) (J.ok.hd hc) s1.heap.objs.size x t
    refine ⟨[s1.heap.objs.size], fun i v => ∃ c u, x.cps[i]? = some c ∧ v = .str ⟨#[c]⟩ u, fun _ => True, fun z => Nat.succ_ne_self _ (List.mem_singleton.mp z), ⟨fun i h z => D.live i h z.1, fun i h h' z k => ⟨D.frame i h h' z.1 k, trivial⟩, fun i s Q E hi z k => D.item i s Q E hi z.1 fun y h' tk w1 w2 w3 => k y h' tk w1 ⟨w2, trivial⟩ w3, fun s Q E z k => D.done s Q E z.1 k⟩, trivial, ?_⟩
    rintro i u hi ⟨c, tk, h1, rfl⟩
    refine ⟨tk, ?_⟩
    show Value.str ⟨#[c]⟩ tk = Value.str (chS x i) tk
    unfold chS
    rw [List.getD_eq_getElem?_getD, Array.getElem?_toList, h1]
    rfl
  · have hle : s1.heap.objs.size ≤ b := by
      rcases List.mem_cons.mp hb with rfl | z
      · exact Nat.le_succ _
      · rw [List.mem_singleton.mp z]
        exact Nat.le_refl _
    exact I1.fpOk hle (I1.hok.fresh hle)
theorem it_enumS {elts : List Expr} {kk : Nat} {tpos : Pos} {x : Str} (hm : X.mg "enumerate" = none) (ha : EX X a E O (vS x)) (hg : Gl X "enumerate" := by rfl) (hs : starEach [a] X.env = [(false, eval a X.env)] := by rfl) :
    IT X (.Tuple elts kk tpos) (.Call (.Name "enumerate" p) [a] [] pos) E O (List.range x.length) (fun i => vT [.int (i : Nat), .str (chS x i)]) := ⟨_, pi_enumS hg hm WA.pa hs, fun σ H R Q q => by
  refine (a_cons ha a_nil hs : EA X [a] E O [_]) σ H R _ fun us H1 rs O1 ⟨e1, e2⟩ s z1 => ?_
  subst e1; subst e2
  cases z1 with
  | cons z1 z2 =>
    cases z2
    obtain rfl := str_of z1
    refine ⟨x, rfl, q _ H1 s ⟨fun i O' H' s1 hi => ⟨trivial, by simpa using hi⟩, fun i O' H' y H2 s1 hi z => ?_, fun O' H' s1 => ⟨trivial, by rw [List.length_range]⟩⟩⟩
    obtain ⟨T, rfl, hT, rfl⟩ := z
    have s2 := Stp.laid (o := .tup [.int (i : Nat), .str (chS x i)]) s1.ok hT
    refine ⟨s2, ?_⟩
    rw [List.getElem_range]
    exact .tup (.inl (vis_laid s1.ok hT)) (.cons (.int _) (.cons (.str _) .nil))⟩
end
end Py
/-! two steps on a ring -/
namespace Rg
/-- the sorted list of what is in a list -/
def insI (x : Int) : List Int → List Int
  | [] => [x]
  | y :: l => if x < y then x :: y :: l else if x = y then y :: l else y :: insI x l
def srtI : List Int → List Int
  | [] => []
  | x :: l => insI x (srtI l)
theorem insI_mem {x z : Int} : ∀ {l : List Int}, z ∈ insI x l ↔ z = x ∨ z ∈ l
  | [] => by simp [insI]
  | y :: l => by
    unfold insI
    split
    · simp
    · split
      · rename_i h; subst h; simp
      · rw [List.mem_cons, insI_mem, List.mem_cons]
        constructor
        · rintro (h | h | h) <;> simp [h]
        · rintro (h | h | h) <;> simp [h]
theorem insI_sorted {x : Int} : ∀ {l : List Int}, l.Pairwise (· < ·) → (insI x l).Pairwise (· < ·)
  | [], _ => by simp [insI]
  | y :: l, h => by
    have h' := List.pairwise_cons.mp h
    unfold insI
    split
    · rename_i hx
      refine List.pairwise_cons.mpr ⟨fun z hz => ?_, h⟩
      rcases List.mem_cons.mp hz with rfl | hz
      · exact hx
      · exact Int.lt_trans hx (h'.1 z hz)
    · split
      · exact h
      · refine List.pairwise_cons.mpr ⟨fun z hz => ?_, insI_sorted h'.2⟩
        rcases insI_mem.mp hz with rfl | hz
        · omega
        · exact h'.1 z hz
theorem insI_len {x : Int} : ∀ {l : List Int}, (insI x l).length ≤ l.length + 1
  | [] => Nat.le_refl _
  | y :: l => by
    unfold insI
    split
    · exact Nat.le_refl _
    · split
      · exact Nat.le_succ _
      · have := insI_len (x := x) (l := l)
        rw [List.length_cons, List.length_cons]
        omega
theorem srtI_mem {z : Int} : ∀ {l : List Int}, z ∈ srtI l ↔ z ∈ l
  | [] => Iff.rfl
  | x :: l => by
    unfold srtI
    rw [insI_mem, srtI_mem, List.mem_cons]
theorem srtI_sorted : ∀ l : List Int, (srtI l).Pairwise (· < ·)
  | [] => List.Pairwise.nil
  | x :: l => insI_sorted (srtI_sorted l)
theorem srtI_len : ∀ l : List Int, (srtI l).length ≤ l.length
  | [] => Nat.le_refl _
  | x :: l => Nat.le_trans insI_len (Nat.succ_le_succ (srtI_len l))

def sd (w h : Nat) : Nat := min h (w - h)
def fa2 (w a b k : Nat) : Nat := max (sd w (k * a % w)) (sd w (k * b % w))
/-- numbers of points nearest by both steps, up to k, and how near the last of them is -/
def bn (w a b : Nat) : Nat → List Nat × Nat
  | 0 => ([], w)
  | k + 1 => if fa2 w a b (k + 1) < (bn w a b k).2 then ((bn w a b k).1 ++ [k + 1], fa2 w a b (k + 1)) else bn w a b k
theorem bn_stay {w a b k : Nat} (h : (bn w a b k).2 = 0) (n : Nat) : bn w a b (k + n) = bn w a b k := by
  induction n with
  | zero => rfl
  | succ n ih =>
    show (if fa2 w a b (k + n + 1) < (bn w a b (k + n)).2 then _ else bn w a b (k + n)) = _
    rw [ih, h, if_neg (Nat.not_lt_zero _)]
theorem bn_end {w a b k n : Nat} (h : (bn w a b k).2 = 0) (hk : k ≤ n) : bn w a b n = bn w a b k := by
  obtain ⟨j, rfl⟩ : ∃ j, n = k + j := ⟨n - k, by omega⟩
  exact bn_stay h j
theorem bn_len (w a b : Nat) : ∀ k, (bn w a b k).1.length ≤ k
  | 0 => Nat.le_refl _
  | k + 1 => by
    have := bn_len w a b k
    unfold bn
    split
    · rw [List.length_append, List.length_singleton]; omega
    · omega
/-- all places of two steps -/
def plcD (w a b m n : Nat) : List Nat := (List.range w).filter fun x => (List.range m).any fun i => (List.range n).any fun j => decide ((i * a + j * b) % w = x)
theorem plcD_mem {w a b m n x : Nat} (hw : 0 < w) : x ∈ plcD w a b m n ↔ ∃ i, i < m ∧ ∃ j, j < n ∧ (i * a + j * b) % w = x := by
  unfold plcD
  rw [List.mem_filter, List.any_eq_true]
  constructor
  · rintro ⟨_, i, hi, h⟩
    obtain ⟨j, hj, h⟩ := List.any_eq_true.mp h
    exact ⟨i, List.mem_range.mp hi, j, List.mem_range.mp hj, by simpa using h⟩
  · rintro ⟨i, hi, j, hj, h⟩
    refine ⟨List.mem_range.mpr (h ▸ Nat.mod_lt _ hw), i, List.mem_range.mpr hi, List.any_eq_true.mpr ⟨j, List.mem_range.mpr hj, by simpa using h⟩⟩
theorem plcD_sorted (w a b m n : Nat) : (plcD w a b m n).Pairwise (· < ·) := List.pairwise_lt_range.filter _
theorem plcD_len (w a b m n : Nat) : (plcD w a b m n).length ≤ w := by
  have := List.length_filter_le (fun x => (List.range m).any fun i => (List.range n).any fun j => decide ((i * a + j * b) % w = x)) (List.range w)
  rw [List.length_range] at this
  exact this
theorem nodup_len {α : Type} [BEq α] [LawfulBEq α] : ∀ {l D : List α}, l.Nodup → (∀ k ∈ l, k ∈ D) → l.length ≤ D.length
  | [], _, _, _ => Nat.zero_le _
  | a :: r, D, hnd, hs => by
    have h1 := List.nodup_cons.mp hnd
    have h2 := nodup_len (l := r) (D := D.erase a) h1.2 fun k hk => (List.mem_erase_of_ne (fun e : k = a => h1.1 (by rw [← e]; exact hk))).mpr (hs k (List.mem_cons_of_mem _ hk))
    rw [List.length_erase_of_mem (hs a List.mem_cons_self)] at h2
    have := List.length_pos_of_mem (hs a List.mem_cons_self)
    rw [List.length_cons]
    omega
theorem plcD_mul (w a b m n : Nat) (hw : 0 < w) : (plcD w a b m n).length ≤ m * n := by
  have h := nodup_len (l := plcD w a b m n) (D := (List.range (m * n)).map fun t => (t / n * a + t % n * b) % w) ((plcD_sorted w a b m n).imp fun h => Nat.ne_of_lt h) fun x hx => by
    obtain ⟨i, hi, j, hj, e⟩ := (plcD_mem hw).mp hx
    refine List.mem_map.mpr ⟨i * n + j, List.mem_range.mpr ?_, ?_⟩
    · have : (i + 1) * n ≤ m * n := Nat.mul_le_mul_right _ hi
      rw [Nat.succ_mul] at this
      omega
    · have e1 : (i * n + j) / n = i := by
        rw [Nat.mul_comm, Nat.mul_add_div (by omega), Nat.div_eq_of_lt hj, Nat.add_zero]
      have e2 : (i * n + j) % n = j := by
        rw [Nat.mul_comm, Nat.mul_add_mod, Nat.mod_eq_of_lt hj]
      show ((i * n + j) / n * a + (i * n + j) % n * b) % w = x
      rw [e1, e2, e]
  simpa using h
theorem plcD_filter (w a b m n : Nat) : ((List.range w).filter fun x => decide (x ∈ plcD w a b m n)) = plcD w a b m n := by
  conv => rhs; unfold plcD
  apply List.filter_congr
  intro x hx
  unfold plcD
  simp only [List.mem_filter, hx, true_and, Bool.decide_eq_true]
def gpD (w a b m n : Nat) : List Int := (List.range (plcD w a b m n).length).map fun i => (((plcD w a b m n ++ [w]).getD (i + 1) 0 : Nat) : Int) - ((plcD w a b m n).getD i 0 : Nat)
end Rg
namespace Py
open PySem PySem.Spec PyProof.Rows L2 Rg
/-! dicts as sets of natural numbers -/
theorem dval_keys (kvs : List (Int × PyData)) (k : Int) : (dval kvs k).isSome = decide (k ∈ kvs.map (·.1)) := by
  induction kvs with
  | nil => rfl
  | cons p r ih =>
    obtain ⟨j, d⟩ := p
    rw [dval_cons]
    by_cases h : j = k
    · simp [h]
    · have h' : ¬ k = j := fun z => h z.symm
      rw [if_neg h, ih]
      simp [h']
theorem dput_keys (kvs : List (Int × PyData)) (k : Int) (v : PyData) : (dput kvs k v).map (·.1) = if k ∈ kvs.map (·.1) then kvs.map (·.1) else kvs.map (·.1) ++ [k] := by
  unfold dput
  rw [dval_any, dval_keys]
  by_cases h : k ∈ kvs.map (·.1)
  · rw [if_pos h, if_pos (decide_eq_true h), List.map_map]
    apply List.map_congr_left
    intro p _
    show (if p.1 = k then (p.1, v) else p).1 = p.1
    split <;> rfl
  · rw [if_neg h, if_neg (by simpa using h), List.map_append]
    rfl
structure DkS (kvs : List (Int × PyData)) (S : Nat → Prop) : Prop where
  nd : (kvs.map (·.1)).Nodup
  mem : ∀ k : Int, k ∈ kvs.map (·.1) ↔ ∃ x : Nat, k = x ∧ S x
theorem DkS.nil : DkS [] (fun _ => False) := ⟨List.nodup_nil, fun k => by simp⟩
theorem DkS.put {kvs : List (Int × PyData)} {S S' : Nat → Prop} (h : DkS kvs S) (x : Nat) (v : PyData) (hS : ∀ y, S' y ↔ S y ∨ y = x) : DkS (dput kvs x v) S' := by
  refine ⟨?_, fun k => ?_⟩
  · rw [dput_keys]
    split
    · exact h.nd
    · rename_i hn
      rw [List.nodup_append]
      refine ⟨h.nd, by simp, fun a ha b hb => ?_⟩
      rw [List.mem_singleton.mp hb]
      intro e
      exact hn (e ▸ ha)
  · have e : k ∈ (dput kvs x v).map (·.1) ↔ k ∈ kvs.map (·.1) ∨ k = x := by
      rw [dput_keys]
      split
      · rename_i hn
        constructor
        · exact Or.inl
        · rintro (z | z)
          · exact z
          · rw [z]; exact hn
      · simp
    rw [e, h.mem]
    constructor
    · rintro (⟨y, rfl, hy⟩ | rfl)
      · exact ⟨y, rfl, (hS y).mpr (.inl hy)⟩
      · exact ⟨x, rfl, (hS x).mpr (.inr rfl)⟩
    · rintro ⟨y, rfl, hy⟩
      rcases (hS y).mp hy with z | z
      · exact .inl ⟨y, rfl, z⟩
      · exact .inr (by rw [z])
theorem DkS.iff {kvs : List (Int × PyData)} {S S' : Nat → Prop} (h : DkS kvs S) (hS : ∀ y, S' y ↔ S y) : DkS kvs S' := ⟨h.nd, fun k => by
  rw [h.mem]
  constructor
  · rintro ⟨x, e, z⟩; exact ⟨x, e, (hS x).mpr z⟩
  · rintro ⟨x, e, z⟩; exact ⟨x, e, (hS x).mp z⟩⟩
theorem DkS.perm {kvs : List (Int × PyData)} {S : Nat → Prop} (h : DkS kvs S) {D : List Nat} (hD : D.Pairwise (· < ·)) (hm : ∀ x, x ∈ D ↔ S x) : (iL D).Perm (kvs.map (·.1)) := by
  refine (List.perm_ext_iff_of_nodup ?_ h.nd).mpr fun k => ?_
  · refine (List.pairwise_map.mpr (hD.imp ?_))
    intro a b h e
    omega
  · rw [iL_mem, h.mem]
    constructor
    · rintro ⟨n, h1, rfl⟩; exact ⟨n, rfl, (hm n).mp h1⟩
    · rintro ⟨x, rfl, h1⟩; exact ⟨x, (hm x).mpr h1, rfl⟩
theorem DkS.val {kvs : List (Int × PyData)} {S : Nat → Prop} (h : DkS kvs S) (x : Nat) : (dval kvs x).isSome = true ↔ S x := by
  rw [dval_keys]
  simp only [decide_eq_true_eq]
  rw [h.mem]
  constructor
  · rintro ⟨y, e, hy⟩
    obtain rfl : x = y := by omega
    exact hy
  · exact fun hy => ⟨x, rfl, hy⟩
def dblD (w a b m n : Nat) : PyData := .tuple [.int w, .int a, .int b, .int m, .int n]
structure Dbl (w a b m n : Nat) : Prop where
  w0 : 2 ≤ w
  w1 : w ≤ 1000
  a1 : a ≤ 1000
  b1 : b ≤ 1000
  m0 : 1 ≤ m
  n0 : 1 ≤ n
  m1 : m ≤ 1000
  n1 : n ≤ 1000
  mn : m * n < 64
def T_places_of : FSpec := pure1 fun ds d => ∃ w a b m n : Nat, Dbl w a b m n ∧ ds = [dblD w a b m n] ∧ d = .tuple ((plcD w a b m n).map nD)
def T_double_gaps : FSpec := pure1 fun ds d => ∃ w a b m n : Nat, Dbl w a b m n ∧ ds = [dblD w a b m n] ∧ d = .tuple ((gpD w a b m n).map .int)
def T_double_lengths : FSpec := pure1 fun ds d => ∃ w a b m n : Nat, Dbl w a b m n ∧ ds = [dblD w a b m n] ∧ d = .tuple ((srtI (gpD w a b m n)).map .int)
def T_side : FSpec := pure1 fun ds d => ∃ w h : Nat, h ≤ w ∧ ds = [.int w, .int h] ∧ d = nD (sd w h)
def T_both_near : FSpec := pure1 fun ds d => ∃ w a b : Nat, 2 ≤ w ∧ w ≤ 1000 ∧ a ≤ 1000 ∧ b ≤ 1000 ∧ ds = [.int w, .int a, .int b] ∧ d = .tuple ((bn w a b w).1.map nD)
theorem plcD_few {w a b m n : Nat} (h : Dbl w a b m n) {kvs : List (Int × PyData)} (k : DkS kvs (fun x => ∃ i, i < m ∧ ∃ j, j < n ∧ (i * a + j * b) % w = x)) : (plcD w a b m n).length = kvs.length := by
  have p := k.perm (plcD_sorted w a b m n) fun x => plcD_mem (by have := h.w0; omega)
  have := p.length_eq
  simpa using this
theorem gpD_few {w a b m n : Nat} (h : Dbl w a b m n) : (gpD w a b m n).length < 64 := by
  have h1 := plcD_mul w a b m n (by have := h.w0; omega)
  have h2 := h.mn
  unfold gpD
  rw [List.length_map, List.length_range]
  omega
theorem getD_nD {l : List Nat} {i : Nat} (h : i < l.length) : (l.map nD).getD i .none = nD (l.getD i 0) := by
  rw [List.getD_eq_getElem?_getD, List.getElem?_map, List.getD_eq_getElem?_getD, List.getElem?_eq_getElem h]
  rfl
theorem drop_app_getD {l : List Nat} {w i : Nat} (h : 0 < l.length) : (l.drop 1 ++ [w]).getD i 0 = (l ++ [w]).getD (i + 1) 0 := by
  cases l with
  | nil => exact absurd h (Nat.lt_irrefl _)
  | cons x r => rfl
theorem cut_one (l : List Nat) : cutD (l.map nD) (some 1) none = (l.drop 1).map nD := by
  unfold cutD
  rw [List.length_map]
  cases l with
  | nil => rfl
  | cons x r =>
    have e1 : HT.sIx (x :: r).length 0 (some 1) = 1 := by
      unfold HT.sIx
      simp
    have e2 : HT.sIx (x :: r).length (x :: r).length none = (x :: r).length := rfl
    rw [e1, e2, ← List.map_drop, ← List.map_take, List.take_of_length_le (by simp)]
end Py
/-! the next point of a row -/
namespace Rg
/-- the point ahead of the new one, and its place; the one behind -/
def ahd (w s m : Nat) : Nat × Nat := ((ordP w s m).filter fun p => decide (p.1 < pl w s m)).getLastD (0, 0)
def bhd (w s m : Nat) : Nat × Nat := (((ordP w s m).filter fun (p : Nat × Nat) => decide (pl w s m < p.1)) ++ [(w, 0)]).headD (0, 0)
theorem last_max : ∀ {l : List (Nat × Nat)}, l.Pairwise (fun p q => p.1 < q.1) → ∀ h : l ≠ [], ∀ x ∈ l, x.1 ≤ (l.getLast h).1
  | [a], _, _, x, hx => by
    obtain rfl := List.mem_singleton.mp hx
    exact Nat.le_refl _
  | a :: b :: r, hp, _, x, hx => by
    obtain ⟨h1, h2⟩ := List.pairwise_cons.mp hp
    rw [List.getLast_cons (by simp)]
    rcases List.mem_cons.mp hx with rfl | hx
    · exact Nat.le_of_lt (h1 _ (List.getLast_mem _))
    · exact last_max h2 (by simp) x hx
structure Ahd (w s m : Nat) (p : Nat × Nat) : Prop where
  lt : p.2 < m
  at_ : p.1 = pl w s p.2
  less : p.1 < pl w s m
  best : ∀ j, j < m → pl w s j < pl w s m → pl w s j ≤ p.1
theorem ahd_ok {w s m : Nat} (hw : 0 < w) (h0 : 0 < m) (hm : m < tn w s) : Ahd w s m (ahd w s m) ∧ ((ordP w s m).filter fun p => decide (p.1 < pl w s m)) ≠ [] := by
  have hp := pl_pos hw h0 hm
  have hne : ((ordP w s m).filter fun p => decide (p.1 < pl w s m)) ≠ [] := by
    apply List.ne_nil_of_mem (a := (0, 0))
    refine List.mem_filter.mpr ⟨(mem_ordP hw (Nat.le_of_lt hm)).mpr ⟨h0, by simp⟩, by simpa using hp⟩
  have e : ahd w s m = ((ordP w s m).filter fun p => decide (p.1 < pl w s m)).getLast hne := by
    unfold ahd
    rw [List.getLastD_eq_getLast?, List.getLast?_eq_some_getLast hne]
    rfl
  have hmem := List.getLast_mem hne
  rw [← e] at hmem
  obtain ⟨h1, h2⟩ := List.mem_filter.mp hmem
  obtain ⟨h3, h4⟩ := (mem_ordP hw (Nat.le_of_lt hm)).mp h1
  refine ⟨⟨h3, h4, by simpa using h2, fun j hj hl => ?_⟩, hne⟩
  rw [e]
  exact last_max ((ordP_sorted w s m).filter _) hne (pl w s j, j) (List.mem_filter.mpr ⟨(mem_ordP hw (Nat.le_of_lt hm)).mpr ⟨hj, rfl⟩, by simpa using hl⟩)
inductive Bhd (w s m : Nat) : Nat × Nat → Prop
  | in_ {p : Nat × Nat} : p.2 < m → p.1 = pl w s p.2 → pl w s m < p.1 → (∀ j, j < m → pl w s m < pl w s j → p.1 ≤ pl w s j) → Bhd w s m p
  | out : (∀ j, j < m → pl w s j ≤ pl w s m) → Bhd w s m (w, 0)
theorem bhd_ok {w s m : Nat} (hw : 0 < w) (h0 : 0 < m) (hm : m < tn w s) : Bhd w s m (bhd w s m) := by
  unfold bhd
  cases h : (ordP w s m).filter fun p => decide (pl w s m < p.1) with
  | nil =>
    refine .out fun j hj => ?_
    have h1 : ∀ p ∈ ordP w s m, ¬ (decide (pl w s m < p.1)) = true := List.filter_eq_nil_iff.mp h
    have := h1 (pl w s j, j) ((mem_ordP hw (Nat.le_of_lt hm)).mpr ⟨hj, rfl⟩)
    simpa using this
  | cons a r =>
    have hp : (a :: r).Pairwise (fun p q => p.1 < q.1) := h ▸ (ordP_sorted w s m).filter _
    obtain ⟨h1, _⟩ := List.pairwise_cons.mp hp
    have ha : a ∈ (ordP w s m).filter fun p => decide (pl w s m < p.1) := by rw [h]; exact List.mem_cons_self
    obtain ⟨h2, h3⟩ := List.mem_filter.mp ha
    obtain ⟨h4, h5⟩ := (mem_ordP hw (Nat.le_of_lt hm)).mp h2
    refine .in_ h4 h5 (by simpa using h3) fun j hj hl => ?_
    have hj' : (pl w s j, j) ∈ (ordP w s m).filter fun p => decide (pl w s m < p.1) := List.mem_filter.mpr ⟨(mem_ordP hw (Nat.le_of_lt hm)).mpr ⟨hj, rfl⟩, by simpa using hl⟩
    rw [h] at hj'
    rcases List.mem_cons.mp hj' with e | e
    · show a.1 ≤ _
      rw [← e]
      exact Nat.le_refl _
    · exact Nat.le_of_lt (h1 _ e)
theorem emod_sub {w a b : Nat} (ha : a < w) (hb : b < w) : ((a : Int) - (b : Int)) % (w : Int) = if b ≤ a then ((a - b : Nat) : Int) else ((a + w - b : Nat) : Int) := by
  split
  · rw [Int.emod_eq_of_lt (by omega) (by omega)]
    omega
  · rw [← Int.add_emod_right, Int.emod_eq_of_lt (by omega) (by omega)]
    omega
theorem bhd_ge {w s m : Nat} (hw : 0 < w) (h0 : 0 < m) (hm : m < tn w s) : pl w s m ≤ (bhd w s m).1 := by
  have hb := bhd_ok hw h0 hm
  have := pl_lt (s := s) (k := m) hw
  generalize bhd w s m = p at hb ⊢
  cases hb with
  | in_ _ _ h3 _ => exact Nat.le_of_lt h3
  | out _ => exact Nat.le_of_lt this
/-- all numbers of points with few lengths -/
def stopL (w s : Nat) : Nat → List Nat
  | 0 => []
  | k + 1 => if (lenL w s (k + 1)).length < 3 then stopL w s k ++ [k + 1] else stopL w s k
theorem stopL_filter (w s : Nat) : ∀ n, ((List.range n).filter fun i => decide ((lenL w s (1 + i)).length < 3)).map (fun i => 1 + i) = stopL w s n
  | 0 => rfl
  | k + 1 => by
    rw [List.range_succ, List.filter_append, List.map_append, stopL_filter w s k]
    show _ = if (lenL w s (k + 1)).length < 3 then stopL w s k ++ [k + 1] else stopL w s k
    rw [Nat.add_comm k 1]
    by_cases h : (lenL w s (1 + k)).length < 3
    · rw [if_pos h, List.filter_cons_of_pos (by simpa using h)]
      rfl
    · rw [if_neg h, List.filter_cons_of_neg (by simpa using h)]
      simp
theorem stopL_len (w s : Nat) : ∀ n, (stopL w s n).length ≤ n
  | 0 => Nat.le_refl _
  | k + 1 => by
    have := stopL_len w s k
    unfold stopL
    split
    · rw [List.length_append]; simp; omega
    · omega
/-- the lengths ahead -/
def befL (w s : Nat) : Nat → List Nat
  | 0 => []
  | k + 1 => lenL w s (k + 1)
def newAt (w s k : Nat) : List (Nat × Nat) := ((lenL w s (1 + k)).filter fun g => !decide (g ∈ befL w s k)).map fun g => (1 + k, g)
def newL (w s : Nat) : Nat → List (Nat × Nat)
  | 0 => []
  | k + 1 => newL w s k ++ newAt w s k
theorem newL_len {w s : Nat} (hw : 0 < w) (h1 : w ≤ 1000) : ∀ n, n ≤ tn w s → (newL w s n).length ≤ n * 64
  | 0, _ => Nat.le_refl _
  | k + 1, hk => by
    have a := newL_len (s := s) hw h1 k (by omega)
    have b := lenL_few (w := w) (s := s) (m := 1 + k) hw (by omega) (by omega) h1
    have c := List.length_filter_le (fun g => !decide (g ∈ befL w s k)) (lenL w s (1 + k))
    unfold newL newAt
    rw [List.length_append, List.length_map]
    omega
theorem bef_eq (w s k : Nat) : befL w s (k + 1) = lenL w s (1 + k) := by rw [Nat.add_comm 1 k]; rfl
end Rg
namespace Py
open PySem PySem.Spec PyProof.Rows L2 Rg
def T_common : FSpec := pure1 fun ds d => ∃ a b : Nat, ds = [.int a, .int b] ∧ d = nD (Nat.gcd a b)
def T_turn : FSpec := pure1 fun ds d => ∃ w s : Nat, 0 < w ∧ w < 2 ^ 1000 ∧ ds = [.int w, .int s] ∧ d = nD (tn w s)
def cutT (w s m : Nat) : PyData := .tuple [nD (ahd w s m).2, nD (bhd w s m).2, nD (pl w s m - (ahd w s m).1), nD ((bhd w s m).1 - pl w s m)]
def T_cut : FSpec := pure1 fun ds d => ∃ w s m : Nat, Row w s m ∧ m < tn w s ∧ ds = [rowD w s m] ∧ d = cutT w s m
def T_stops : FSpec := pure1 fun ds d => ∃ w s : Nat, 1 ≤ s ∧ s < w ∧ w ≤ 1000 ∧ ds = [.int w, .int s] ∧ d = .tuple ((stopL w s (tn w s)).map nD)
def T_new_lengths : FSpec := pure1 fun ds d => ∃ w s : Nat, 1 ≤ s ∧ s < w ∧ w ≤ 1000 ∧ ds = [.int w, .int s] ∧ d = .tuple ((newL w s (tn w s)).map npD)
theorem sh_cutT (n : Nat) (w s m : Nat) : sh (n + 1) (cutT w s m) := sh_tup fun x hx => by
  simp only [List.mem_cons, List.not_mem_nil, or_false] at hx
  rcases hx with rfl | rfl | rfl | rfl <;> exact sh_int _ _
theorem row_at {w s k : Nat} (h0 : 1 ≤ s) (h1 : s < w) (h2 : w ≤ 1000) (hk : k < tn w s) : Row w s (1 + k) := ⟨h2, h0, h1, by omega, by omega⟩
theorem min_back {w s m : Nat} (hw : 0 < w) (h0 : 0 < m) (hm : m < tn w s) : let f := fun k : Nat => ((((pl w s m : Nat) : Int) - (pl w s k : Nat)) % (w : Int), (k : Int));
    ((((pl w s m - (ahd w s m).1 : Nat) : Int)), (((ahd w s m).2 : Nat) : Int)) ∈ (List.range m).map f ∧ ∀ y ∈ (List.range m).map f, lexle ((((pl w s m - (ahd w s m).1 : Nat) : Int)), (((ahd w s m).2 : Nat) : Int)) y := by
  intro f
  obtain ⟨⟨h1, h2, h3, h4⟩, _⟩ := ahd_ok hw h0 hm
  generalize ahd w s m = p at h1 h2 h3 h4
  have ef : ∀ k, f k = (if pl w s k ≤ pl w s m then ((pl w s m - pl w s k : Nat) : Int) else ((pl w s m + w - pl w s k : Nat) : Int), (k : Int)) := fun k => by
    show (_, _) = _
    rw [emod_sub (pl_lt hw) (pl_lt hw)]
  constructor
  · refine List.mem_map.mpr ⟨p.2, List.mem_range.mpr h1, ?_⟩
    rw [ef, ← h2, if_pos (by omega)]
  · intro y hy
    obtain ⟨k, hk, rfl⟩ := List.mem_map.mp hy
    have hk' := List.mem_range.mp hk
    rw [ef]
    by_cases e : k = p.2
    · subst e
      rw [← h2, if_pos (by omega)]
      exact lexle_of (.inr ⟨rfl, Int.le_refl _⟩)
    · have hne : pl w s k ≠ pl w s p.2 := fun z => e (pl_inj' hw (by omega) (by omega) z)
      have hnm : pl w s k ≠ pl w s m := fun z => by
        have := pl_inj' hw (by omega) hm z
        omega
      have hlt := pl_lt (s := s) (k := k) hw
      refine lexle_of (.inl ?_)
      rw [← h2] at hne
      show _ < (if pl w s k ≤ pl w s m then _ else _)
      split
      · have := h4 k hk' (by omega)
        show ((pl w s m - p.1 : Nat) : Int) < _
        omega
      · show ((pl w s m - p.1 : Nat) : Int) < _
        omega
theorem min_on {w s m : Nat} (hw : 0 < w) (h0 : 0 < m) (hm : m < tn w s) : let f := fun k : Nat => ((((pl w s k : Nat) : Int) - (pl w s m : Nat)) % (w : Int), (k : Int));
    (((((bhd w s m).1 - pl w s m : Nat) : Int)), (((bhd w s m).2 : Nat) : Int)) ∈ (List.range m).map f ∧ ∀ y ∈ (List.range m).map f, lexle (((((bhd w s m).1 - pl w s m : Nat) : Int)), (((bhd w s m).2 : Nat) : Int)) y := by
  intro f
  have hb := bhd_ok hw h0 hm
  have hp := pl_pos hw h0 hm
  have hmw := pl_lt (s := s) (k := m) hw
  generalize bhd w s m = p at hb
  have ef : ∀ k, f k = (if pl w s m ≤ pl w s k then ((pl w s k - pl w s m : Nat) : Int) else ((pl w s k + w - pl w s m : Nat) : Int), (k : Int)) := fun k => by
    show (_, _) = _
    rw [emod_sub (pl_lt hw) (pl_lt hw)]
  cases hb with
  | in_ h1 h2 h3 h4 =>
    constructor
    · refine List.mem_map.mpr ⟨p.2, List.mem_range.mpr h1, ?_⟩
      rw [ef, ← h2, if_pos (by omega)]
    · intro y hy
      obtain ⟨k, hk, rfl⟩ := List.mem_map.mp hy
      have hk' := List.mem_range.mp hk
      rw [ef]
      by_cases e : k = p.2
      · subst e
        rw [← h2, if_pos (by omega)]
        exact lexle_of (.inr ⟨rfl, Int.le_refl _⟩)
      · have hne : pl w s k ≠ pl w s p.2 := fun z => e (pl_inj' hw (by omega) (by omega) z)
        have hnm : pl w s k ≠ pl w s m := fun z => by
          have := pl_inj' hw (by omega) hm z
          omega
        have hlt := pl_lt (s := s) (k := p.2) hw
        refine lexle_of (.inl ?_)
        rw [← h2] at hne hlt
        show _ < (if pl w s m ≤ pl w s k then _ else _)
        split
        · have := h4 k hk' (by omega)
          show ((p.1 - pl w s m : Nat) : Int) < _
          omega
        · show ((p.1 - pl w s m : Nat) : Int) < _
          omega
  | out h1 =>
    constructor
    · refine List.mem_map.mpr ⟨0, List.mem_range.mpr h0, ?_⟩
      rw [ef, pl_zero, if_neg (by omega), Nat.zero_add]
    · intro y hy
      obtain ⟨k, hk, rfl⟩ := List.mem_map.mp hy
      have hk' := List.mem_range.mp hk
      rw [ef]
      have hnm : pl w s k ≠ pl w s m := fun z => by
        have := pl_inj' hw (by omega) hm z
        omega
      have := h1 k hk'
      rw [if_neg (by omega)]
      by_cases e : k = 0
      · subst e
        rw [pl_zero]
        refine lexle_of (.inr ⟨?_, Int.le_refl _⟩)
        show ((w - pl w s m : Nat) : Int) = _
        rw [Nat.zero_add]
      · have := pl_pos (s := s) hw (Nat.pos_of_ne_zero e) (by omega)
        refine lexle_of (.inl ?_)
        show ((w - pl w s m : Nat) : Int) < _
        omega
theorem atI_lastP {l : List (Nat × Nat)} (h : l ≠ []) : atI (l.map npD) (-1) = some (npD (l.getLastD (0, 0))) := by
  obtain ⟨r, x, rfl⟩ : ∃ r x, l = r ++ [x] := ⟨l.dropLast, l.getLast h, (List.dropLast_concat_getLast h).symm⟩
  rw [List.map_append]
  show atI (r.map npD ++ [npD x]) (-1) = _
  rw [atI_last, List.getLastD_concat]
theorem atI_headP (w s m : Nat) : atI (((ordP w s m).filter fun p => decide (pl w s m < p.1)).map (fun p => npD p) ++ [.tuple [.int (w : Int), .int 0]]) 0 = some (npD (bhd w s m)) := by
  unfold bhd
  refine atI_nat (j := 0) ?_
  cases (ordP w s m).filter fun p => decide (pl w s m < p.1) with
  | nil => rfl
  | cons a r => rfl
end Py
/-! neighbours, by their numbers -/
namespace Rg
/-- all points round the ring, and point 0 again -/
def rnd (w s m : Nat) : List Nat := ordL w s m ++ [0]
theorem rnd_nx {w s m i : Nat} (hw : 0 < w) (hm : m ≤ tn w s) (hi : i < m) : nx w s m ((rnd w s m).getD i 0) = (rnd w s m).getD (i + 1) 0 := by
  have hl := ordL_len hw hm
  have e1 : (rnd w s m).getD i 0 = (ordL w s m).getD i 0 := by
    unfold rnd
    rw [List.getD_eq_getElem?_getD, List.getElem?_append_left (by omega), List.getD_eq_getElem?_getD]
  unfold nx
  rw [e1, ordL_idx hw hm hi]
  unfold rnd
  rw [List.getD_eq_getElem?_getD, List.getD_eq_getElem?_getD]
  by_cases h : i + 1 < m
  · rw [List.getElem?_append_left (by omega), List.getElem?_append_left (by omega)]
  · have h0 := ordL_zero hw hm (by omega)
    rw [List.getElem?_append_right (by omega), List.getElem?_append_right (by omega), show i + 1 - (ordL w s m).length = 0 by omega, List.getElem?_eq_getElem (by omega), h0]
    rfl
theorem rnd_len {w s m : Nat} (hw : 0 < w) (hm : m ≤ tn w s) : (rnd w s m).length = m + 1 := by
  unfold rnd
  rw [List.length_append, ordL_len hw hm]
  rfl
theorem rnd_lt {w s m i : Nat} (hw : 0 < w) (hm : m ≤ tn w s) (hi : i < m) : (rnd w s m).getD i 0 < m := by
  have hl := ordL_len hw hm
  unfold rnd
  rw [List.getD_eq_getElem?_getD, List.getElem?_append_left (by omega), List.getElem?_eq_getElem (by omega)]
  exact ordL_lt hw hm (by omega)
theorem rnd_zero {w s m : Nat} (hw : 0 < w) (hm : m ≤ tn w s) (h0 : 0 < m) : (rnd w s m).take 1 = [0] ∧ (rnd w s m).getD 0 0 = 0 := by
  have hl := ordL_len hw hm
  have h1 := ordL_zero hw hm h0
  unfold rnd
  cases h : ordL w s m with
  | nil => rw [h] at hl; simp at hl; omega
  | cons x r =>
    have : x = 0 := by
      have : (ordL w s m)[0]'(by omega) = x := by simp [h]
      omega
    subst this
    exact ⟨rfl, rfl⟩
theorem take_step {l : List Nat} {i : Nat} (h : i < l.length) : l.take (i + 1) = l.take i ++ [l.getD i 0] := by
  rw [List.take_succ, List.getElem?_eq_getElem h, List.getD_eq_getElem?_getD, List.getElem?_eq_getElem h]
  rfl
/-- how much on the next point is -/
def dueI (m a b k : Nat) : Int := if (k : Int) < (m : Int) - (a : Int) then (a : Int) else if (b : Int) ≤ (k : Int) then 0 - (b : Int) else (a : Int) - (b : Int)
theorem due_ok {w s m k : Nat} (hw : 0 < w) (hm : m ≤ tn w s) (h2 : 2 ≤ m) (hk : k < m) : dueI m (rgt w s m).1 (lft w s m).1 k = (nx w s m k : Int) - (k : Int) := by
  obtain ⟨h, _, _⟩ := rl_ok hw hm h2
  rw [h.next hk]
  have hs := h.sum
  have hb := h.b0
  have hbm := h.bm
  generalize (rgt w s m).1 = a, (lft w s m).1 = b at *
  unfold dueI nx3
  by_cases h1 : k + a < m
  · rw [if_pos h1, if_pos (show (k : Int) < (m : Int) - (a : Int) by omega)]; omega
  · rw [if_neg h1, if_neg (show ¬ (k : Int) < (m : Int) - (a : Int) by omega)]
    by_cases h2 : b ≤ k
    · rw [if_pos h2, if_pos (show (b : Int) ≤ (k : Int) by omega)]; omega
    · rw [if_neg h2, if_neg (show ¬ (b : Int) ≤ (k : Int) by omega)]; omega
theorem nx_one {w s : Nat} (hw : 0 < w) : nx w s 1 0 = 0 := by
  unfold nx
  rw [ordL_one hw]
  rfl
theorem rgt_one (w s : Nat) : rgt w s 1 = (0, w) := by unfold rgt; rw [if_pos rfl]
/-- a whole turn: both gaps beside point 0 are alike -/
theorem turn_alike {w s : Nat} (hw : 0 < w) : (rgt w s (tn w s)).2 = (lft w s (tn w s)).2 := by
  have hp := tn_pos (s := s) hw
  by_cases h1 : tn w s = 1
  · rw [h1, rgt_one, lft_one hw]
  · obtain ⟨h, e1, e2⟩ := rl_ok hw (Nat.le_refl (tn w s)) (by omega)
    rw [e1, e2]
    have ha := h.a0
    have ham := h.am
    have hb := h.b0
    have hbm := h.bm
    generalize (rgt w s (tn w s)).1 = a, (lft w s (tn w s)).1 = b at *
    have z : pl w s (tn w s) = 0 := (mul_mod_zero hw).mpr (Nat.dvd_refl _)
    have t1 := pl_sub (s := s) hw (Nat.le_of_lt ham)
    have t2 := pl_sub (s := s) hw (Nat.le_of_lt hbm)
    rw [z] at t1 t2
    have p1 := h.pos ha ham
    have p2 := h.pos hb hbm
    have q1 := h.mx (tn w s - a) (by omega)
    have q2 := h.mn (tn w s - b) (by omega) (by omega)
    have l1 := h.lt b
    omega
/-- one point more: right and left are no further -/
theorem more_near {w s m : Nat} (hw : 0 < w) (hm : m < tn w s) (h0 : 1 ≤ m) : (rgt w s (m + 1)).2 ≤ (rgt w s m).2 ∧ (lft w s (m + 1)).2 ≤ (lft w s m).2 := by
  obtain ⟨h, e1, e2⟩ := rl_ok (m := m + 1) hw hm (by omega)
  rw [e1, e2]
  by_cases h1 : m = 1
  · subst h1
    rw [rgt_one, lft_one hw]
    have := h.lt (rgt w s 2).1
    exact ⟨Nat.le_of_lt this, Nat.sub_le _ _⟩
  · obtain ⟨g, f1, f2⟩ := rl_ok hw (Nat.le_of_lt hm) (by omega)
    rw [f1, f2]
    have q1 := h.mn (rgt w s m).1 g.a0 (by have := g.am; omega)
    have q2 := h.mx (lft w s m).1 (by have := g.bm; omega)
    omega
theorem more_who {w s m : Nat} (hw : 0 < w) (hm : m < tn w s) (h2 : 2 ≤ m) : ((rgt w s (m + 1)).1 = (rgt w s m).1 ∨ (rgt w s (m + 1)).1 = m) ∧ ((lft w s (m + 1)).1 = (lft w s m).1 ∨ (lft w s (m + 1)).1 = m) := by
  obtain ⟨h, _, _⟩ := rl_ok (m := m + 1) hw hm (by omega)
  obtain ⟨g, _, _⟩ := rl_ok hw (Nat.le_of_lt hm) h2
  have a1 := h.am
  have b1 := h.bm
  have a2 := g.am
  have b2 := g.bm
  constructor
  · by_cases e : (rgt w s (m + 1)).1 = m
    · exact .inr e
    · left
      have q1 := h.mn (rgt w s m).1 g.a0 (by omega)
      have q2 := g.mn (rgt w s (m + 1)).1 h.a0 (by omega)
      exact g.inj (by omega) a2 (by omega)
  · by_cases e : (lft w s (m + 1)).1 = m
    · exact .inr e
    · left
      have q1 := h.mx (lft w s m).1 (by omega)
      have q2 := g.mx (lft w s (m + 1)).1 (by omega)
      exact g.inj (by omega) b2 (by omega)
end Rg
namespace Py
open PySem PySem.Spec PyProof.Rows L2 Rg
theorem cut_last (l : List Nat) (x : Nat) : cutD ((l ++ [x]).map nD) none (some (-1)) = l.map nD := by
  unfold cutD
  have e1 : HT.sIx ((l ++ [x]).map nD).length 0 none = 0 := rfl
  have e2 : HT.sIx ((l ++ [x]).map nD).length ((l ++ [x]).map nD).length (some (-1)) = l.length := by
    show (if (-1 : Int) < 0 then ((-1 : Int) + ((((l ++ [x]).map nD).length : Nat) : Int)).toNat else min (-1 : Int).toNat ((l ++ [x]).map nD).length) = l.length
    rw [if_pos (by decide), List.length_map, List.length_append, List.length_singleton]
    omega
  rw [e1, e2, List.drop_zero, Nat.sub_zero, List.map_append, List.take_left' (by simp)]
theorem sh_natl {n : Nat} (l : List Nat) : sh (n + 1) (.list (l.map nD)) := sh_lst fun x hx => by
  obtain ⟨i, _, rfl⟩ := List.mem_map.mp hx
  exact sh_int _ _
end Py
/-! one point more -/
namespace Rg
section
variable {w s m a b : Nat}
theorem RL.uniq {a' b' : Nat} (h : RL w s m a b) (g : RL w s m a' b') : a = a' ∧ b = b' :=
  ⟨h.inj h.am g.am (Nat.le_antisymm (h.mn a' g.a0 g.am) (g.mn a h.a0 h.am)), h.inj h.bm g.bm (Nat.le_antisymm (g.mx b h.bm) (h.mx b' g.bm))⟩
theorem RL.step (h : RL w s m a b) (hm : m < tn w s) : (m < a + b ∧ RL w s (m + 1) a b) ∨ (m = a + b ∧ w - pl w s b < pl w s a ∧ pl w s m = pl w s a - (w - pl w s b) ∧ RL w s (m + 1) m b) ∨ (m = a + b ∧ pl w s a < w - pl w s b ∧ pl w s m = pl w s b + pl w s a ∧ RL w s (m + 1) a m) := by
  have hs := h.sum
  have ha := h.a0
  have hb := h.b0
  have ham := h.am
  have hbm := h.bm
  have hla := h.lt a
  have hlb := h.lt b
  have hlm := h.lt m
  have hpa := h.pos ha ham
  have hpb := h.pos hb hbm
  have hpm := pl_pos h.w0 (show 0 < m by omega) hm
  have hab := h.mx a ham
  by_cases e : m < a + b
  · refine .inl ⟨e, h.w0, hm, ha, by omega, hb, by omega, fun j hj hjm => ?_, fun j hjm => ?_⟩
    · by_cases ej : j = m
      · subst ej
        rcases Nat.lt_or_ge (pl w s j) (pl w s a) with z | z
        · exfalso
          have h1 := pl_sub (s := s) h.w0 (Nat.le_of_lt ham)
          have h2 := h.mx (j - a) (by omega)
          have h3 := pl_sub (s := s) h.w0 (show j - a ≤ b by omega)
          have h4 := h.mn (b - (j - a)) (by omega) (by omega)
          have h5 := h.lt (b - (j - a))
          omega
        · exact z
      · exact h.mn j hj (by omega)
    · by_cases ej : j = m
      · subst ej
        rcases Nat.lt_or_ge (pl w s b) (pl w s j) with z | z
        · exfalso
          have h1 := pl_sub (s := s) h.w0 (Nat.le_of_lt hbm)
          have h2 := h.mn (j - b) (by omega) (by omega)
          have h3 := pl_sub (s := s) h.w0 (show j - b ≤ a by omega)
          have h4 := h.mx (a - (j - b)) (by omega)
          have h5 := h.lt (j - b)
          have h6 := h.pos (show 1 ≤ a - (j - b) by omega) (by omega)
          omega
        · exact z
      · exact h.mx j (by omega)
  · have e' : m = a + b := by omega
    have hadd := pl_add (s := s) h.w0 a b
    rw [← e'] at hadd
    rcases Nat.lt_trichotomy (pl w s a) (w - pl w s b) with z | z | z
    · refine .inr (.inr ⟨e', z, by omega, h.w0, hm, ha, by omega, by omega, by omega, fun j hj hjm => ?_, fun j hjm => ?_⟩)
      · by_cases ej : j = m
        · subst ej; omega
        · exact h.mn j hj (by omega)
      · by_cases ej : j = m
        · subst ej; exact Nat.le_refl _
        · have := h.mx j (by omega)
          omega
    · omega
    · refine .inr (.inl ⟨e', z, by omega, h.w0, hm, by omega, by omega, hb, by omega, fun j hj hjm => ?_, fun j hjm => ?_⟩)
      · by_cases ej : j = m
        · subst ej; exact Nat.le_refl _
        · have := h.mn j hj (by omega)
          omega
      · by_cases ej : j = m
        · subst ej
          omega
        · exact h.mx j (by omega)
end
/-- what the two gaps are that a new point makes, and what it cuts -/
structure CutOk (w s m a b : Nat) (p q : Nat × Nat) : Prop where
  k : p.2 + a = m
  n : q.2 + b = m
  back : pl w s m - p.1 = pl w s a
  on : q.1 - pl w s m = w - pl w s b
  gap : gapN w s m p.2 = pl w s a + (w - pl w s b)
  next : nx w s m p.2 = q.2
  lt : p.2 < m
  keep : ∀ j, j < m → j ≠ p.2 → gapN w s (m + 1) j = gapN w s m j
  one : gapN w s (m + 1) p.2 = pl w s a
  two : gapN w s (m + 1) m = w - pl w s b
theorem cut_ok {w s m : Nat} (hw : 0 < w) (h0 : 0 < m) (hm : m < tn w s) : CutOk w s m (rgt w s (m + 1)).1 (lft w s (m + 1)).1 (ahd w s m) (bhd w s m) := by
  obtain ⟨hR, _, _⟩ := rl_ok (m := m + 1) hw hm (by omega)
  generalize (rgt w s (m + 1)).1 = a, (lft w s (m + 1)).1 = b at hR
  obtain ⟨⟨k1, k2, k3, k4⟩, _⟩ := ahd_ok hw h0 hm
  have hB := bhd_ok hw h0 hm
  have hlm := pl_lt (s := s) (k := m) hw
  have hpm := pl_pos hw h0 hm
  obtain ⟨n1, n2, n3, n4⟩ : (bhd w s m).2 < m ∧ pl w s m < (bhd w s m).1 ∧ (bhd w s m).1 ≤ w ∧ ((bhd w s m).1 = pl w s (bhd w s m).2 ∨ ((bhd w s m).1 = w ∧ (bhd w s m).2 = 0)) := by
    generalize bhd w s m = p at hB
    cases hB with
    | in_ h1 h2 h3 h4 =>
      have := pl_lt (s := s) (k := p.2) hw
      exact ⟨h1, h3, by omega, .inl h2⟩
    | out h1 => exact ⟨h0, hlm, Nat.le_refl _, .inr ⟨rfl, rfl⟩⟩
  have n5 : ∀ j, j < m → pl w s m < pl w s j → (bhd w s m).1 ≤ pl w s j := by
    generalize bhd w s m = p at hB
    cases hB with
    | in_ h1 h2 h3 h4 => exact h4
    | out h1 =>
      intro j hj hl
      have := h1 j hj
      omega
  generalize ahd w s m = p, bhd w s m = q at *
  obtain ⟨pk, k⟩ := p
  obtain ⟨pn, n⟩ := q
  obtain rfl : pk = pl w s k := k2
  simp only at *
  have ne : ∀ j, j < m → pl w s j ≠ pl w s m := fun j hj z => by
    have := pl_inj' hw (by omega) hm z
    omega
  have fp : ∀ i j, i ≤ m → j ≤ m → far w s i j = if pl w s i < pl w s j then pl w s j - pl w s i else pl w s j + w - pl w s i := fun i j hi hj => far_place hw (by omega) (by omega)
  -- all are as far from k as n is
  have fk : ∀ j, j < m → pn - pl w s k ≤ far w s k j := fun j hj => by
    rw [fp k j (by omega) (by omega)]
    have h1 := ne j hj
    have h2 := k4 j hj
    have h3 := n5 j hj
    split
    · omega
    · omega
  have fkn : far w s k n = pn - pl w s k := by
    rw [fp k n (by omega) (by omega)]
    rcases n4 with e | ⟨e1, e2⟩
    · rw [← e, if_pos (by omega)]
    · rw [e2, pl_zero, if_neg (by omega), e1, Nat.zero_add]
  have gk : gapN w s m k = pn - pl w s k := by
    rw [← fkn]
    refine gapN_eq hw k1 (by omega) n1 fun j hj => ?_
    rw [fkn]
    exact fk j hj
  have hnx : nx w s m k = n := by
    obtain ⟨x1, x2⟩ := nx_far hw (Nat.le_of_lt hm) k1
    exact far_inj (s := s) (k := k) hw (by omega) (by omega) (by omega) (by rw [x2, gk, fkn])
  -- in the row with one point more
  have fkm : far w s k m = pl w s m - pl w s k := by
    rw [fp k m (by omega) (by omega), if_pos k3]
  have g1 : gapN w s (m + 1) k = pl w s m - pl w s k := by
    show min (gapN w s m k) (far w s k m) = _
    rw [gk, fkm, Nat.min_eq_right (by omega)]
  have fmn : far w s m n = pn - pl w s m := by
    rw [fp m n (by omega) (by omega)]
    rcases n4 with e | ⟨e1, e2⟩
    · rw [← e, if_pos (by omega)]
    · rw [e2, pl_zero, if_neg (by omega), e1, Nat.zero_add]
  have g2 : gapN w s (m + 1) m = pn - pl w s m := by
    rw [← fmn]
    refine gapN_eq hw (by omega) hm (by omega) fun j hj => ?_
    rw [fmn]
    by_cases ej : j = m
    · subst ej
      unfold far
      rw [if_neg (Nat.lt_irrefl _), Nat.sub_self, pl_zero]
      omega
    · rw [fp m j (by omega) (by omega)]
      have h3 := n5 j (by omega)
      have h1 := ne j (by omega)
      split
      · omega
      · omega
  have nx1 : nx w s (m + 1) k = m := by
    obtain ⟨x1, x2⟩ := nx_far (m := m + 1) hw hm (show k < m + 1 by omega)
    exact far_inj (s := s) (k := k) hw (by omega) (by omega) (by omega) (by rw [x2, g1, fkm])
  have nx2 : nx w s (m + 1) m = n := by
    obtain ⟨x1, x2⟩ := nx_far (m := m + 1) hw hm (show m < m + 1 by omega)
    exact far_inj (s := s) (k := m) hw (by omega) (by omega) (by omega) (by rw [x2, g2, fmn])
  have r1 := hR.next (show k < m + 1 by omega)
  have r2 := hR.next (show m < m + 1 by omega)
  have r3 := hR.gap (show k < m + 1 by omega)
  have r4 := hR.gap (show m < m + 1 by omega)
  rw [nx1] at r1
  rw [nx2] at r2
  rw [g1] at r3
  rw [g2] at r4
  have ha := hR.a0
  have hb := hR.b0
  have ham := hR.am
  have hbm := hR.bm
  unfold nx3 at r1 r2
  unfold gp3 at r3 r4
  rw [if_neg (by omega), if_pos (by omega)] at r2 r4
  have ek : k + a = m := by
    split at r1
    · omega
    · split at r1
      · omega
      · omega
  rw [if_pos (by omega)] at r3
  have e5 : pl w s m - pl w s k + (pn - pl w s m) = pn - pl w s k := by omega
  refine ⟨ek, by omega, r3, r4, ?_, hnx, k1, fun j hj hjk => ?_, by rw [g1, r3], by rw [g2, r4]⟩
  · rw [gk, ← r3, ← r4]
    exact e5.symm
  · show min (gapN w s m j) (far w s j m) = gapN w s m j
    refine Nat.min_eq_left (Nat.le_trans (gapN_le (n := k) k1) ?_)
    rw [fp j k (by omega) (by omega), fp j m (by omega) (by omega)]
    have h1 := ne j hj
    have h2 := k4 j hj
    have h3 : pl w s j ≠ pl w s k := fun z => hjk (pl_inj' (s := s) hw (by omega) (by omega) z)
    have h4 := pl_lt (s := s) (k := j) hw
    split
    · rw [if_pos (by omega)]
      omega
    · rw [if_neg (by omega)]
      omega
/-- the gap that is cut is a greatest one -/
theorem cut_greatest {w s m : Nat} (hw : 0 < w) (h0 : 0 < m) (hm : m < tn w s) : (lenL w s m).getLastD 0 = pl w s (rgt w s (m + 1)).1 + (w - pl w s (lft w s (m + 1)).1) := by
  obtain ⟨hR, _, _⟩ := rl_ok (m := m + 1) hw hm (by omega)
  generalize (rgt w s (m + 1)).1 = a', (lft w s (m + 1)).1 = b' at hR
  by_cases h1 : m = 1
  · subst h1
    rw [lenL_one hw]
    have := hR.am
    have := hR.a0
    have := hR.bm
    have := hR.b0
    obtain rfl : a' = 1 := by omega
    obtain rfl : b' = 1 := by omega
    have := hR.lt 1
    show w = _
    omega
  · obtain ⟨h, _, _⟩ := rl_ok hw (Nat.le_of_lt hm) (show 2 ≤ m by omega)
    generalize (rgt w s m).1 = a, (lft w s m).1 = b at h
    have hp := h.pos h.a0 h.am
    have hq := h.lt b
    rw [lenL_three h]
    unfold len3
    rcases h.step hm with ⟨e, g⟩ | ⟨e, z, e2, g⟩ | ⟨e, z, e2, g⟩
    · obtain ⟨e3, e4⟩ := hR.uniq g
      rw [e3, e4, decide_eq_true e, if_pos rfl, List.getLastD_concat]
    · obtain ⟨e3, e4⟩ := hR.uniq g
      rw [e3, e4, decide_eq_false (by omega), if_neg (by omega), if_pos z]
      show pl w s a = _
      omega
    · obtain ⟨e3, e4⟩ := hR.uniq g
      have h5 := hR.lt m
      rw [e3, e4, decide_eq_false (by omega), if_pos z]
      show w - pl w s b = _
      have := h.lt a
      omega
/-- all gaps of one point more -/
theorem cut_perm {w s m : Nat} (hw : 0 < w) (h0 : 0 < m) (hm : m < tn w s) : (gapL w s m ++ [pl w s (rgt w s (m + 1)).1, w - pl w s (lft w s (m + 1)).1]).Perm ((pl w s (rgt w s (m + 1)).1 + (w - pl w s (lft w s (m + 1)).1)) :: gapL w s (m + 1)) := by
  have C := cut_ok hw h0 hm
  have p1 : (gapL w s m).Perm ((List.range m).map (gapN w s m)) := (ordL_perm hw (Nat.le_of_lt hm)).map _
  have p2 : (gapL w s (m + 1)).Perm ((List.range (m + 1)).map (gapN w s (m + 1))) := (ordL_perm hw hm).map _
  refine (p1.append_right _).trans (.trans ?_ (p2.cons _).symm)
  have e1 : (List.range (m + 1)).map (gapN w s (m + 1)) = (List.range m).map (gapN w s (m + 1)) ++ [gapN w s (m + 1) m] := by rw [List.range_succ, List.map_append]; rfl
  have hk : (ahd w s m).2 ∈ List.range m := List.mem_range.mpr C.lt
  have q0 := List.perm_cons_erase hk
  have q1 := q0.map (gapN w s m)
  have q2 := q0.map (gapN w s (m + 1))
  have e2 : ((List.range m).erase (ahd w s m).2).map (gapN w s (m + 1)) = ((List.range m).erase (ahd w s m).2).map (gapN w s m) := by
    apply List.map_congr_left
    intro j hj
    obtain ⟨h1, h2⟩ := (List.nodup_range.mem_erase_iff).mp hj
    exact C.keep j (List.mem_range.mp h2) h1
  rw [List.map_cons, C.gap] at q1
  rw [List.map_cons, C.one, e2] at q2
  rw [e1, C.two]
  refine (q1.append_right _).trans (.trans ?_ ((q2.append_right _).cons _).symm)
  rw [List.cons_append, List.cons_append]
  exact (List.perm_middle).cons _
end Rg
/-! lengths as they come -/
namespace Rg
theorem stopL_mem {w s m : Nat} : ∀ {n : Nat}, m ∈ stopL w s n ↔ 1 ≤ m ∧ m ≤ n ∧ (lenL w s m).length < 3
  | 0 => by
    show m ∈ [] ↔ _
    simp only [List.not_mem_nil, false_iff]
    omega
  | n + 1 => by
    have ih := stopL_mem (w := w) (s := s) (m := m) (n := n)
    show m ∈ (if (lenL w s (n + 1)).length < 3 then stopL w s n ++ [n + 1] else stopL w s n) ↔ _
    by_cases e : m = n + 1
    · subst e
      by_cases h : (lenL w s (n + 1)).length < 3
      · rw [if_pos h]
        simp [h]
      · rw [if_neg h, ih]
        constructor
        · rintro ⟨_, z, _⟩; omega
        · rintro ⟨_, _, z⟩; exact absurd z h
    · have e2 : m ∈ (if (lenL w s (n + 1)).length < 3 then stopL w s n ++ [n + 1] else stopL w s n) ↔ m ∈ stopL w s n := by
        split
        · simp [e]
        · rfl
      rw [e2, ih]
      constructor
      · rintro ⟨h1, h2, h3⟩; exact ⟨h1, by omega, h3⟩
      · rintro ⟨h1, h2, h3⟩; exact ⟨h1, by omega, h3⟩
theorem len3_few {A B : Nat} {t : Bool} : (len3 A B t).length < 3 ↔ t = false ∨ A = B := by
  unfold len3
  cases t
  · simp only [Bool.false_eq_true, if_false, List.append_nil, true_or, iff_true]
    split
    · simp
    · split
      · simp
      · simp
  · simp only [if_true, List.length_append, List.length_singleton]
    split
    · simp; omega
    · split
      · simp; omega
      · simp; omega
theorem few_iff {w s m : Nat} (hw : 0 < w) (h0 : 1 ≤ m) (hm : m ≤ tn w s) : (lenL w s m).length < 3 ↔ m = 1 ∨ (rgt w s m).1 + (lft w s m).1 = m ∨ (rgt w s m).2 = (lft w s m).2 := by
  by_cases h1 : m = 1
  · subst h1
    rw [lenL_one hw]
    simp
  · obtain ⟨h, e1, e2⟩ := rl_ok hw hm (by omega)
    have hs := h.sum
    rw [lenL_three h, len3_few, e1, e2, decide_eq_false_iff_not]
    constructor
    · rintro (z | z)
      · exact .inr (.inl (by omega))
      · exact .inr (.inr z)
    · rintro (z | z | z)
      · exact absurd z h1
      · exact .inl (by omega)
      · exact .inr z
theorem tn_two {w s : Nat} (h0 : 1 ≤ s) (h1 : s < w) : 2 ≤ tn w s := by
  have hg : Nat.gcd w s ≤ s := Nat.le_of_dvd h0 (Nat.gcd_dvd_right w s)
  have h := tn_mul w s
  rcases Nat.lt_or_ge (tn w s) 2 with z | z
  · have : tn w s * Nat.gcd w s ≤ 1 * Nat.gcd w s := Nat.mul_le_mul_right _ (by omega)
    omega
  · exact z
theorem lenL_turn {w s : Nat} (h0 : 1 ≤ s) (h1 : s < w) : (lenL w s (tn w s)).length < 3 := by
  have h2 := tn_two h0 h1
  exact (few_iff (by omega) (by omega) (Nat.le_refl _)).mpr (.inr (.inr (turn_alike (by omega))))
/-- the last gap of all -/
theorem turn_gap {w s a b : Nat} (h : RL w s (tn w s) a b) (e : pl w s a = w - pl w s b) : pl w s a = w / tn w s := by
  have hg := gcd_pos (s := s) h.w0
  have ht := tn_pos (s := s) h.w0
  have hmul := tn_mul w s
  have e1 : w / tn w s = Nat.gcd w s := Nat.div_eq_of_eq_mul_right ht hmul.symm
  rw [e1]
  have hge : Nat.gcd w s ≤ pl w s a := by
    refine Nat.le_of_dvd (h.pos h.a0 h.am) ?_
    unfold pl
    exact (Nat.dvd_mod_iff (Nat.gcd_dvd_left w s)).mpr (Nat.dvd_trans (Nat.gcd_dvd_right w s) (Nat.dvd_mul_left s a))
  have hle : tn w s * pl w s a ≤ w := by
    have hsum := gapL_sum h.w0 h.mt ht
    have hlen := gapL_len h.w0 h.mt
    have key : ∀ l : List Nat, (∀ x ∈ l, pl w s a ≤ x) → l.length * pl w s a ≤ l.sum := by
      intro l
      induction l with
      | nil => intro _; simp
      | cons x r ih =>
        intro hx
        have h1 := ih fun y hy => hx y (List.mem_cons_of_mem _ hy)
        have h2 := hx x List.mem_cons_self
        rw [List.length_cons, List.sum_cons, Nat.succ_mul]
        omega
    have := key (gapL w s (tn w s)) fun x hx => by
      rcases (gap_mem3 h).mp hx with z | z | ⟨_, z⟩
      · omega
      · omega
      · omega
    rw [hlen, hsum] at this
    exact this
  rcases Nat.lt_or_ge (Nat.gcd w s) (pl w s a) with z | z
  · have : tn w s * (Nat.gcd w s + 1) ≤ tn w s * pl w s a := Nat.mul_le_mul_left _ z
    rw [Nat.mul_succ] at this
    omega
  · omega
theorem newL_mem1 {w s : Nat} : ∀ {n : Nat} {p : Nat × Nat}, p ∈ newL w s n → 1 ≤ p.1 ∧ p.1 ≤ n
  | 0, p, h => by cases h
  | n + 1, p, h => by
    rcases List.mem_append.mp (show p ∈ newL w s n ++ newAt w s n from h) with z | z
    · have := newL_mem1 z
      omega
    · obtain ⟨g, _, rfl⟩ := List.mem_map.mp z
      show 1 ≤ 1 + n ∧ 1 + n ≤ n + 1
      omega
def lexN (p q : Nat × Nat) : Prop := p.1 < q.1 ∨ (p.1 = q.1 ∧ p.2 < q.2)
theorem newL_sorted {w s : Nat} : ∀ n, (newL w s n).Pairwise lexN
  | 0 => List.Pairwise.nil
  | n + 1 => by
    refine List.pairwise_append.mpr ⟨newL_sorted n, ?_, fun p hp q hq => ?_⟩
    · exact List.pairwise_map.mpr (((lenL_sorted w s (1 + n)).filter _).imp fun {x y} h => .inr ⟨rfl, h⟩)
    · have h1 := newL_mem1 hp
      obtain ⟨g, _, rfl⟩ := List.mem_map.mp hq
      exact .inl (show p.1 < 1 + n by omega)
theorem newL_head {w s : Nat} (hw : 0 < w) : ∀ n, 1 ≤ n → ∃ r, newL w s n = (1, w) :: r
  | 0, h => by omega
  | 1, _ => ⟨[], by
    show [] ++ newAt w s 0 = _
    unfold newAt befL
    rw [lenL_one hw]
    rfl⟩
  | n + 2, _ => by
    obtain ⟨r, e⟩ := newL_head hw (n + 1) (by omega)
    refine ⟨r ++ newAt w s (n + 1), ?_⟩
    show newL w s (n + 1) ++ _ = _
    rw [e]
    rfl
/-- what comes at a number of points -/
theorem newL_at {w s k : Nat} : ∀ {n : Nat}, k < n → ((newL w s n).filter fun p => decide (p.1 = 1 + k)).map (·.2) = (lenL w s (1 + k)).filter fun g => !decide (g ∈ befL w s k)
  | 0, h => by omega
  | n + 1, h => by
    show ((newL w s n ++ newAt w s n).filter _).map _ = _
    rw [List.filter_append, List.map_append]
    by_cases e : k = n
    · subst e
      have e1 : (newL w s k).filter (fun p => decide (p.1 = 1 + k)) = [] := List.filter_eq_nil_iff.mpr fun p hp => by
        have := newL_mem1 hp
        simp; omega
      have e2 : (newAt w s k).filter (fun p => decide (p.1 = 1 + k)) = newAt w s k := List.filter_eq_self.mpr fun p hp => by
        obtain ⟨g, _, rfl⟩ := List.mem_map.mp hp
        simp
      rw [e1, e2]
      unfold newAt
      rw [List.map_map]
      simp
      exact List.map_id' _
    · have e2 : (newAt w s n).filter (fun p => decide (p.1 = 1 + k)) = [] := List.filter_eq_nil_iff.mpr fun p hp => by
        obtain ⟨g, _, rfl⟩ := List.mem_map.mp hp
        simp; omega
      rw [e2, List.map_nil, List.append_nil]
      exact newL_at (by omega)
def szL (w s n : Nat) : List Nat := (newL w s n).map (·.2)
theorem szL_succ (w s n : Nat) : szL w s (n + 1) = szL w s n ++ ((lenL w s (1 + n)).filter fun g => !decide (g ∈ befL w s n)) := by
  show (newL w s n ++ newAt w s n).map _ = _
  rw [List.map_append]
  unfold newAt
  rw [List.map_map]
  show _ ++ List.map (fun g => g) _ = _
  rw [List.map_id']
  rfl
theorem szL_sub {w s : Nat} : ∀ {n g : Nat}, g ∈ befL w s n → g ∈ szL w s n
  | 0, g, h => by cases h
  | n + 1, g, h => by
    rw [szL_succ, List.mem_append]
    by_cases hb : g ∈ befL w s n
    · exact .inl (szL_sub hb)
    · right
      rw [bef_eq] at h
      exact List.mem_filter.mpr ⟨h, by simpa using hb⟩
structure SzOk (w s n A B : Nat) : Prop where
  nd : (szL w s n).Nodup
  at_ : ∀ x ∈ szL w s n, x = min A B ∨ max A B ≤ x
theorem sz_step {w s n a b : Nat} (h : RL w s n a b) (hn : n < tn w s) (S : SzOk w s n (pl w s a) (w - pl w s b)) : ∃ a' b', RL w s (n + 1) a' b' ∧ SzOk w s (n + 1) (pl w s a') (w - pl w s b') := by
  have hp := h.pos h.a0 h.am
  have hq := h.lt b
  have hn0 : n ≠ 0 := by have := h.am; omega
  have eb : befL w s n = lenL w s n := by
    obtain ⟨k, rfl⟩ : ∃ k, n = k + 1 := ⟨n - 1, by omega⟩
    rfl
  have e1 : lenL w s (1 + n) = lenL w s (n + 1) := by rw [Nat.add_comm]
  have hmem : ∀ g, g ∈ lenL w s n ↔ g = pl w s a ∨ g = w - pl w s b ∨ (n < a + b ∧ g = pl w s a + (w - pl w s b)) := fun g => by rw [lenL_mem h.w0 h.mt, gap_mem3 h]
  have fin : ∀ a' b' (g : RL w s (n + 1) a' b') (N : ∀ x, x ∈ lenL w s (n + 1) → ¬ x ∈ lenL w s n → x ∉ szL w s n ∧ (x = min (pl w s a') (w - pl w s b') ∨ max (pl w s a') (w - pl w s b') ≤ x)) (O : ∀ x ∈ szL w s n, x = min (pl w s a') (w - pl w s b') ∨ max (pl w s a') (w - pl w s b') ≤ x), SzOk w s (n + 1) (pl w s a') (w - pl w s b') := by
    intro a' b' g N O
    have N' : ∀ x, x ∈ ((lenL w s (1 + n)).filter fun g => !decide (g ∈ befL w s n)) → x ∉ szL w s n ∧ (x = min (pl w s a') (w - pl w s b') ∨ max (pl w s a') (w - pl w s b') ≤ x) := fun x hx => by
      obtain ⟨h1, h2⟩ := List.mem_filter.mp hx
      rw [e1] at h1
      rw [eb] at h2
      exact N x h1 (by simpa using h2)
    refine ⟨?_, fun x hx => ?_⟩
    · rw [szL_succ]
      refine List.nodup_append.mpr ⟨S.nd, (nodup_lt (lenL_sorted w s (1 + n))).filter _, fun x hx y hy e => ?_⟩
      subst e
      exact (N' x hy).1 hx
    · rw [szL_succ] at hx
      rcases List.mem_append.mp hx with z | z
      · exact O x z
      · exact (N' x z).2
  rcases h.step hn with ⟨e, g⟩ | ⟨e, z, e2, g⟩ | ⟨e, z, e2, g⟩
  · refine ⟨a, b, g, fin a b g (fun x h1 h2 => ?_) S.at_⟩
    exfalso
    apply h2
    rw [hmem]
    rw [lenL_mem g.w0 g.mt, gap_mem3 g] at h1
    rcases h1 with z | z | ⟨_, z⟩
    · exact .inl z
    · exact .inr (.inl z)
    · exact .inr (.inr ⟨e, z⟩)
  · refine ⟨n, b, g, fin n b g (fun x h1 h2 => ?_) fun x hx => ?_⟩
    · rw [lenL_mem g.w0 g.mt, gap_mem3 g] at h1
      rw [hmem] at h2
      have h3 : x = pl w s n := by omega
      refine ⟨fun hx => ?_, by omega⟩
      have := S.at_ x hx
      omega
    · have := S.at_ x hx
      omega
  · refine ⟨a, n, g, fin a n g (fun x h1 h2 => ?_) fun x hx => ?_⟩
    · have hlm := h.lt n
      rw [lenL_mem g.w0 g.mt, gap_mem3 g] at h1
      rw [hmem] at h2
      have h3 : x = w - pl w s n := by omega
      refine ⟨fun hx => ?_, by omega⟩
      have := S.at_ x hx
      omega
    · have := S.at_ x hx
      have hlm := h.lt n
      omega
theorem sz_ok {w s : Nat} (hw : 0 < w) : ∀ {n : Nat}, 2 ≤ n → n ≤ tn w s → ∃ a b, RL w s n a b ∧ SzOk w s n (pl w s a) (w - pl w s b)
  | 0, h, _ => by omega
  | 1, h, _ => by omega
  | 2, _, hn => by
    obtain ⟨h, _, _⟩ := rl_ok hw hn (by omega)
    refine ⟨_, _, h, ?_⟩
    generalize (rgt w s 2).1 = a, (lft w s 2).1 = b at h
    have hla := h.lt a
    have e1 : szL w s 2 = w :: ((lenL w s 2).filter fun g => !decide (g ∈ [w])) := by
      rw [szL_succ, szL_succ]
      show ([] ++ (lenL w s 1).filter _) ++ (lenL w s 2).filter (fun g => !decide (g ∈ lenL w s 1)) = _
      rw [lenL_one hw]
      rfl
    have hm : ∀ x, x ∈ ((lenL w s 2).filter fun g => !decide (g ∈ [w])) → x ≠ w ∧ (x = pl w s a ∨ x = w - pl w s b ∨ x = pl w s a + (w - pl w s b)) := fun x hx => by
      obtain ⟨h1, h2⟩ := List.mem_filter.mp hx
      rw [lenL_mem h.w0 h.mt, gap_mem3 h] at h1
      refine ⟨by simpa using h2, ?_⟩
      rcases h1 with z | z | ⟨_, z⟩
      · exact .inl z
      · exact .inr (.inl z)
      · exact .inr (.inr z)
    refine ⟨?_, fun x hx => ?_⟩
    · rw [e1]
      refine List.nodup_cons.mpr ⟨fun z => (hm w z).1 rfl, (nodup_lt (lenL_sorted w s 2)).filter _⟩
    · rw [e1] at hx
      rcases List.mem_cons.mp hx with z | z
      · omega
      · have := hm x z
        omega
  | n + 3, _, hn => by
    obtain ⟨a, b, h, S⟩ := sz_ok (w := w) (s := s) hw (n := n + 2) (by omega) (by omega)
    exact sz_step h (by omega) S
theorem sz_end {w s : Nat} (h0 : 1 ≤ s) (h1 : s < w) : (szL w s (tn w s)).Nodup ∧ w / tn w s ∈ szL w s (tn w s) ∧ ∀ x ∈ szL w s (tn w s), w / tn w s ≤ x := by
  have hw : 0 < w := by omega
  have h2 := tn_two h0 h1
  obtain ⟨a, b, h, S⟩ := sz_ok (s := s) hw h2 (Nat.le_refl _)
  have ea := turn_alike (s := s) hw
  obtain ⟨g, e1, e2⟩ := rl_ok hw (Nat.le_refl (tn w s)) h2
  rw [e1, e2] at ea
  obtain ⟨z1, z2⟩ := g.uniq h
  rw [z1, z2] at ea
  have eg := turn_gap h ea
  refine ⟨S.nd, szL_sub ?_, fun x hx => ?_⟩
  · obtain ⟨k, ek⟩ : ∃ k, tn w s = k + 1 := ⟨tn w s - 1, by omega⟩
    rw [← eg]
    have : pl w s a ∈ lenL w s (tn w s) := (lenL_mem hw (Nat.le_refl _)).mpr ((gap_mem3 h).mpr (.inl rfl))
    rw [ek] at this ⊢
    exact this
  · have := S.at_ x hx
    omega
end Rg
namespace Rg
theorem stopL_head {w s : Nat} (hw : 0 < w) : ∀ n, 1 ≤ n → ∃ r, stopL w s n = 1 :: r
  | 0, h => by omega
  | 1, _ => ⟨[], by
    show (if (lenL w s 1).length < 3 then [] ++ [1] else []) = [1]
    rw [lenL_one hw]
    rfl⟩
  | n + 2, _ => by
    obtain ⟨r, e⟩ := stopL_head (s := s) hw (n + 1) (by omega)
    show ∃ r, (if (lenL w s (n + 2)).length < 3 then stopL w s (n + 1) ++ [n + 2] else stopL w s (n + 1)) = 1 :: r
    rw [e]
    split
    · exact ⟨r ++ [n + 2], rfl⟩
    · exact ⟨r, rfl⟩
theorem stopL_last {w s : Nat} (h0 : 1 ≤ s) (h1 : s < w) : (stopL w s (tn w s)).getLastD 0 = tn w s := by
  have h2 := tn_two h0 h1
  have h3 := lenL_turn h0 h1
  obtain ⟨k, e⟩ : ∃ k, tn w s = k + 1 := ⟨tn w s - 1, by omega⟩
  rw [e] at h3 ⊢
  show (if (lenL w s (k + 1)).length < 3 then stopL w s k ++ [k + 1] else stopL w s k).getLastD 0 = k + 1
  rw [if_pos h3, List.getLastD_concat]
theorem bef_pos {w s m : Nat} (h : 0 < m) : befL w s m = lenL w s m := by
  obtain ⟨k, rfl⟩ : ∃ k, m = k + 1 := ⟨m - 1, by omega⟩
  rfl
theorem fresh_eq {w s m : Nat} (hw : 0 < w) (h0 : 0 < m) (hm : m < tn w s) : ((lenL w s (1 + m)).filter fun g => !decide (g ∈ befL w s m)) = (len3 (pl w s (rgt w s (m + 1)).1) (w - pl w s (lft w s (m + 1)).1) false).filter fun g => !decide (g ∈ lenL w s m) := by
  obtain ⟨hR, _, _⟩ := rl_ok (m := m + 1) hw hm (by omega)
  have C := cut_ok hw h0 hm
  have hG : pl w s (rgt w s (m + 1)).1 + (w - pl w s (lft w s (m + 1)).1) ∈ lenL w s m := by
    rw [lenL_mem hw (Nat.le_of_lt hm), gapL_mem hw (Nat.le_of_lt hm)]
    exact ⟨_, C.lt, C.gap⟩
  have hp := hR.pos hR.a0 hR.am
  have hq := hR.lt (lft w s (m + 1)).1
  rw [bef_pos h0, Nat.add_comm 1 m, lenL_three hR]
  obtain ⟨s1, m1⟩ := len3_ok (A := pl w s (rgt w s (m + 1)).1) (B := w - pl w s (lft w s (m + 1)).1) (t := decide (m + 1 < (rgt w s (m + 1)).1 + (lft w s (m + 1)).1)) hp (by omega)
  obtain ⟨s2, m2⟩ := len3_ok (A := pl w s (rgt w s (m + 1)).1) (B := w - pl w s (lft w s (m + 1)).1) (t := false) hp (by omega)
  refine sorted_ext (s1.filter _) (s2.filter _) fun x => ?_
  rw [List.mem_filter, List.mem_filter, m1, m2]
  constructor
  · rintro ⟨z | z | ⟨_, z⟩, y⟩
    · exact ⟨.inl z, y⟩
    · exact ⟨.inr (.inl z), y⟩
    · subst z
      simp [hG] at y
  · rintro ⟨z | z | ⟨z, _⟩, y⟩
    · exact ⟨.inl z, y⟩
    · exact ⟨.inr (.inl z), y⟩
    · cases z
theorem fresh_three {w s m : Nat} (hw : 0 < w) (h0 : 0 < m) (hm : m < tn w s) (h3 : (lenL w s m).length = 3) : ((len3 (pl w s (rgt w s (m + 1)).1) (w - pl w s (lft w s (m + 1)).1) false).filter fun g => !decide (g ∈ lenL w s m)) = [] := by
  obtain ⟨hR, _, _⟩ := rl_ok (m := m + 1) hw hm (by omega)
  generalize (rgt w s (m + 1)).1 = a', (lft w s (m + 1)).1 = b' at hR
  have h1 : m ≠ 1 := fun e => by
    rw [e, lenL_one hw] at h3
    simp at h3
  obtain ⟨h, _, _⟩ := rl_ok hw (Nat.le_of_lt hm) (show 2 ≤ m by omega)
  generalize (rgt w s m).1 = a, (lft w s m).1 = b at h
  have hnf : ¬ (lenL w s m).length < 3 := by omega
  rw [lenL_three h, len3_few, decide_eq_false_iff_not] at hnf
  have e : m < a + b := by
    rcases Nat.lt_or_ge m (a + b) with z | z
    · exact z
    · exact absurd (.inl (by omega)) hnf
  rcases h.step hm with ⟨_, g⟩ | ⟨e', _, _, _⟩ | ⟨e', _, _, _⟩
  · obtain ⟨rfl, rfl⟩ := hR.uniq g
    refine List.filter_eq_nil_iff.mpr fun x hx => ?_
    have hp := h.pos h.a0 h.am
    have hq := h.lt b'
    obtain ⟨_, m2⟩ := len3_ok (A := pl w s a') (B := w - pl w s b') (t := false) hp (by omega)
    have hin : x ∈ lenL w s m := by
      rw [lenL_mem h.w0 h.mt, gap_mem3 h]
      rcases (m2 x).mp hx with z | z | ⟨z, _⟩
      · exact .inl z
      · exact .inr (.inl z)
      · cases z
    simp [hin]
  · omega
  · omega
def srtZ (l : List Int) : List Int := l.mergeSort fun a b => decide (a ≤ b)
theorem srtZ_perm (l : List Int) : (srtZ l).Perm l := List.mergeSort_perm _ _
theorem srtZ_sorted (l : List Int) : (srtZ l).Pairwise (· ≤ ·) := by
  have h := List.pairwise_mergeSort (le := fun a b : Int => decide (a ≤ b)) (fun a b c h1 h2 => by
    have h1 := of_decide_eq_true h1
    have h2 := of_decide_eq_true h2
    exact decide_eq_true (by omega)) (fun a b => by
    rcases Int.le_total a b with z | z
    · simp [z]
    · simp [z]) l
  exact h.imp fun h => of_decide_eq_true h
theorem srtZ_uniq {l r : List Int} (h1 : r.Perm l) (h2 : r.Pairwise (· ≤ ·)) : srtZ l = r := List.Perm.eq_of_pairwise (le := (· ≤ ·)) (fun a b _ _ h1 h2 => Int.le_antisymm h1 h2) (srtZ_sorted l) h2 ((srtZ_perm l).trans h1.symm)
end Rg
namespace Py
open PySem PySem.Spec PyProof.Rows L2 Rg
theorem nbeq (a b : Nat) : (a == b) = decide (a = b) := by by_cases h : a = b <;> simp [h]
theorem old_eq {w s m : Nat} (hw : 0 < w) (h0 : 0 < m) (hm : m < tn w s) : (srtZ (iL (gapL w s m ++ [pl w s (rgt w s (m + 1)).1, w - pl w s (lft w s (m + 1)).1]))).erase (((pl w s (rgt w s (m + 1)).1 + (w - pl w s (lft w s (m + 1)).1) : Nat) : Int)) = srtZ (iL (gapL w s (m + 1)))
    ∧ (((pl w s (rgt w s (m + 1)).1 + (w - pl w s (lft w s (m + 1)).1) : Nat) : Int)) ∈ srtZ (iL (gapL w s m ++ [pl w s (rgt w s (m + 1)).1, w - pl w s (lft w s (m + 1)).1])) := by
  have hp := (cut_perm hw h0 hm).map (fun n : Nat => (n : Int))
  generalize pl w s (rgt w s (m + 1)).1 = A, w - pl w s (lft w s (m + 1)).1 = B at *
  rw [List.map_cons] at hp
  have q := (srtZ_perm (iL (gapL w s m ++ [A, B]))).trans hp
  constructor
  · refine (srtZ_uniq ?_ ((srtZ_sorted _).sublist List.erase_sublist)).symm
    have := q.erase ((A + B : Nat) : Int)
    rw [List.erase_cons_head] at this
    exact this
  · exact q.mem_iff.mpr List.mem_cons_self
end Py
/-! returns, and quotients -/
namespace Rg
def recStep (t : List Nat × Option Nat) (p : Nat × Nat) : List Nat × Option Nat := match t.2 with
  | none => (t.1 ++ [p.1], some p.2)
  | some b => if p.2 < b then (t.1 ++ [p.1], some p.2) else t
def recT (ps : List (Nat × Nat)) : List Nat × Option Nat := ps.foldl recStep ([], none)
theorem recT_app (ps : List (Nat × Nat)) (p : Nat × Nat) : recT (ps ++ [p]) = recStep (recT ps) p := by
  unfold recT
  rw [List.foldl_append]
  rfl
theorem recT_len (ps : List (Nat × Nat)) : (recT ps).1.length ≤ ps.length := by
  have key : ∀ (ps : List (Nat × Nat)) (t : List Nat × Option Nat), (ps.foldl recStep t).1.length ≤ t.1.length + ps.length := by
    intro ps
    induction ps with
    | nil => intro t; exact Nat.le_refl _
    | cons p r ih =>
      intro t
      have h1 := ih (recStep t p)
      have h2 : (recStep t p).1.length ≤ t.1.length + 1 := by
        unfold recStep
        split
        · simp
        · split
          · simp
          · omega
      rw [List.foldl_cons, List.length_cons]
      omega
  have := key ps ([], none)
  rw [List.length_nil, Nat.zero_add] at this
  exact this
/-- the numbers of those that are less than all ahead of them -/
def recF (f : Nat → Nat) (T : Nat) : List Nat := ((List.range T).filter fun i => (List.range i).all fun j => decide (f (1 + i) < f (1 + j))).map fun i => 1 + i
def rowsF (f : Nat → Nat) (T : Nat) : List (Nat × Nat) := (List.range T).map fun i => (1 + i, f (1 + i))
theorem rowsF_succ (f : Nat → Nat) (T : Nat) : rowsF f (T + 1) = rowsF f T ++ [(1 + T, f (1 + T))] := by
  unfold rowsF
  rw [List.range_succ, List.map_append]
  rfl
theorem recF_succ (f : Nat → Nat) (T : Nat) : recF f (T + 1) = recF f T ++ (if ∀ j, j < T → f (1 + T) < f (1 + j) then [1 + T] else []) := by
  unfold recF
  rw [List.range_succ, List.filter_append, List.map_append]
  congr 1
  by_cases h : ∀ j, j < T → f (1 + T) < f (1 + j)
  · rw [if_pos h, List.filter_cons_of_pos (by simpa using h)]
    rfl
  · rw [if_neg h, List.filter_cons_of_neg (by simpa using h)]
    rfl
theorem rec_ok (f : Nat → Nat) : ∀ T, (recT (rowsF f T)).1 = recF f T ∧ ((T = 0 ∧ (recT (rowsF f T)).2 = none) ∨ ∃ b, (recT (rowsF f T)).2 = some b ∧ (∃ j, j < T ∧ f (1 + j) = b) ∧ ∀ j, j < T → b ≤ f (1 + j))
  | 0 => ⟨rfl, .inl ⟨rfl, rfl⟩⟩
  | T + 1 => by
    obtain ⟨h1, h2⟩ := rec_ok f T
    rw [rowsF_succ, recT_app, recF_succ]
    generalize recT (rowsF f T) = t at h1 h2
    obtain ⟨l, o⟩ := t
    simp only at h1 h2
    subst h1
    rcases h2 with ⟨rfl, rfl⟩ | ⟨b, rfl, ⟨j, hj, e⟩, hb⟩
    · refine ⟨?_, .inr ⟨f (1 + 0), rfl, ⟨0, by omega, rfl⟩, fun j hj => ?_⟩⟩
      · rw [if_pos (fun j hj => absurd hj (Nat.not_lt_zero _))]
        rfl
      · obtain rfl : j = 0 := by omega
        exact Nat.le_refl _
    · have hiff : (∀ j, j < T → f (1 + T) < f (1 + j)) ↔ f (1 + T) < b := by
        constructor
        · intro h; rw [← e]; exact h j hj
        · intro h k hk; exact Nat.lt_of_lt_of_le h (hb k hk)
      show (if f (1 + T) < b then (recF f T ++ [1 + T], some (f (1 + T))) else (recF f T, some b)).1 = _ ∧ _
      by_cases h : f (1 + T) < b
      · have es : recStep (recF f T, some b) (1 + T, f (1 + T)) = (recF f T ++ [1 + T], some (f (1 + T))) := if_pos h
        rw [if_pos h, if_pos (hiff.mpr h), es]
        refine ⟨rfl, .inr ⟨_, rfl, ⟨T, by omega, rfl⟩, fun k hk => ?_⟩⟩
        by_cases ek : k = T
        · subst ek; exact Nat.le_refl _
        · have := hb k (by omega)
          omega
      · have es : recStep (recF f T, some b) (1 + T, f (1 + T)) = (recF f T, some b) := if_neg h
        rw [if_neg h, if_neg (fun z => h (hiff.mp z)), es, List.append_nil]
        refine ⟨rfl, .inr ⟨b, rfl, ⟨j, by omega, e⟩, fun k hk => ?_⟩⟩
        by_cases ek : k = T
        · subst ek; omega
        · exact hb k (by omega)
/-- quotients -/
def quo (a b : Nat) : List Nat := if h : b = 0 then [] else a / b :: quo b (a % b)
termination_by b
decreasing_by exact Nat.mod_lt _ (Nat.pos_of_ne_zero h)
theorem quo_zero (a : Nat) : quo a 0 = [] := by unfold quo; rw [dif_pos rfl]
theorem quo_pos {a b : Nat} (h : 0 < b) : quo a b = a / b :: quo b (a % b) := by
  rw [quo, dif_neg (by omega)]
/-- the ring and the step that have quotients -/
def whF (l : List Nat) : Nat × Nat := l.reverse.foldl (fun t n => (n * t.1 + t.2, t.1)) (1, 0)
theorem whF_cons (n : Nat) (l : List Nat) : whF (n :: l) = (n * (whF l).1 + (whF l).2, (whF l).1) := by
  unfold whF
  rw [List.reverse_cons, List.foldl_append]
  rfl
/-- forward: lower and upper ones -/
def lowF (l : List Nat) : Nat × Nat := l.foldl (fun t n => (n * t.1 + t.2, t.1)) (1, 0)
def uppF (l : List Nat) : Nat × Nat := l.foldl (fun t n => (n * t.1 + t.2, t.1)) (0, 1)
theorem fold_lin (l : List Nat) : ∀ t : Nat × Nat, (l.foldl (fun t n => (n * t.1 + t.2, t.1)) t).1 = t.1 * (lowF l).1 + t.2 * (uppF l).1 := by
  unfold lowF uppF
  have key : ∀ (l : List Nat) (t u v : Nat × Nat) (x y : Nat), t.1 = x * u.1 + y * v.1 → t.2 = x * u.2 + y * v.2 → (l.foldl (fun t n => (n * t.1 + t.2, t.1)) t).1 = x * (l.foldl (fun t n => (n * t.1 + t.2, t.1)) u).1 + y * (l.foldl (fun t n => (n * t.1 + t.2, t.1)) v).1 := by
    intro l
    induction l with
    | nil => intro t u v x y h1 _; exact h1
    | cons n r ih =>
      intro t u v x y h1 h2
      rw [List.foldl_cons, List.foldl_cons, List.foldl_cons]
      refine ih _ _ _ x y ?_ h1
      show n * t.1 + t.2 = x * (n * u.1 + u.2) + y * (n * v.1 + v.2)
      rw [h1, h2, Nat.mul_add, Nat.mul_add, Nat.mul_add, Nat.mul_left_comm n x, Nat.mul_left_comm n y]
      omega
  intro t
  exact key l t (1, 0) (0, 1) t.1 t.2 (by simp) (by simp)
theorem whF_eq : ∀ l : List Nat, whF l = ((lowF l).1, (uppF l).1)
  | [] => rfl
  | n :: l => by
    rw [whF_cons, whF_eq l]
    have e1 : (lowF (n :: l)).1 = n * (lowF l).1 + 1 * (uppF l).1 := by
      show (l.foldl (fun t n => (n * t.1 + t.2, t.1)) (n * 1 + 0, 1)).1 = _
      rw [fold_lin]
      simp
    have e2 : (uppF (n :: l)).1 = 1 * (lowF l).1 + 0 * (uppF l).1 := by
      show (l.foldl (fun t n => (n * t.1 + t.2, t.1)) (n * 0 + 1, 0)).1 = _
      rw [fold_lin]
      simp
    rw [e1, e2]
    simp
theorem quo_le : ∀ {b a x : Nat}, x ∈ quo a b → x ≤ a + b := by
  intro b
  induction b using Nat.strongRecOn with
  | _ b ih =>
    intro a x hx
    by_cases h : b = 0
    · subst h
      rw [quo_zero] at hx
      cases hx
    · rw [quo_pos (by omega)] at hx
      rcases List.mem_cons.mp hx with z | z
      · have := Nat.div_le_self a b
        omega
      · have h1 := Nat.mod_lt a (show 0 < b by omega)
        have h2 := ih (a % b) h1 z
        have h3 := Nat.mod_le a b
        omega
theorem quo_len : ∀ {b a : Nat}, (quo a b).length ≤ b := by
  intro b
  induction b using Nat.strongRecOn with
  | _ b ih =>
    intro a
    by_cases h : b = 0
    · subst h
      rw [quo_zero]
      exact Nat.le_refl _
    · rw [quo_pos (by omega), List.length_cons]
      have h1 := Nat.mod_lt a (show 0 < b by omega)
      have h2 := ih (a % b) h1 (a := b)
      omega
def fracL (l : List Nat) : List (Nat × Nat) := (List.range l.length).map fun i => ((whF (l.take (1 + i))).2, (whF (l.take (1 + i))).1)
end Rg
namespace Py
open PySem PySem.Spec PyProof.Rows L2 Rg
def T_records : FSpec := pure1 fun ds d => ∃ ps : List (Nat × Nat), ps.length ≤ 1000 ∧ ds = [.list (ps.map npD)] ∧ d = .tuple ((recT ps).1.map nD)
def rF (w s k : Nat) : Nat := k * s % w
def lF (w s k : Nat) : Nat := w - k * s % w
def nF (w s k : Nat) : Nat := min (k * s % w) (w - k * s % w)
def T_nearest : FSpec := pure1 fun ds d => ∃ w s : Nat, 0 < w ∧ w ≤ 1000 ∧ s ≤ 1000 ∧ ds = [.int w, .int s] ∧ d = .tuple ((recF (nF w s) (tn w s - 1)).map nD)
def T_nearest_right : FSpec := pure1 fun ds d => ∃ w s : Nat, 0 < w ∧ w ≤ 1000 ∧ s ≤ 1000 ∧ ds = [.int w, .int s] ∧ d = .tuple ((recF (rF w s) (tn w s - 1)).map nD)
def T_nearest_left : FSpec := pure1 fun ds d => ∃ w s : Nat, 0 < w ∧ w ≤ 1000 ∧ s ≤ 1000 ∧ ds = [.int w, .int s] ∧ d = .tuple ((recF (lF w s) (tn w s - 1)).map nD)
def T_quotients : FSpec := pure1 fun ds d => ∃ a b : Nat, b ≤ 50000 ∧ ds = [.int a, .int b] ∧ d = .tuple ((quo a b).map nD)
def dT (f : Nat → Nat) (T : Nat) : List (Int × PyData) := (List.range T).map fun i => (((1 + i : Nat) : Int), nD (f (1 + i)))
def T__law_records : FSpec := fun rs O Φ => ∃ (q : Addr) (T : Nat) (f : Nat → Nat), rs = [.v (.ref q)] ∧ (q, .dic (dT f T)) ∈ O ∧ T ≤ 1000 ∧ Φ (vT ((recF f T).map nD)) O
theorem dT_keys (f : Nat → Nat) (T : Nat) : (dT f T).map (·.1) = (List.range T).map fun i => ((1 + i : Nat) : Int) := by
  unfold dT
  rw [List.map_map]
  rfl
theorem dT_len (f : Nat → Nat) (T : Nat) : (dT f T).length = T := by unfold dT; simp
theorem dT_succ (f : Nat → Nat) (T : Nat) : dT f (T + 1) = dT f T ++ [(((1 + T : Nat) : Int), nD (f (1 + T)))] := by
  unfold dT
  rw [List.range_succ, List.map_append]
  rfl
theorem dT_val {f : Nat → Nat} {T i : Nat} (h : i < T) : dval (dT f T) ((1 + i : Nat) : Int) = some (nD (f (1 + i))) := by
  induction T with
  | zero => omega
  | succ T ih =>
    rw [dT_succ, dval_app]
    by_cases e : i = T
    · subst e
      have hn : dval (dT f i) ((1 + i : Nat) : Int) = none := by
        cases q : dval (dT f i) ((1 + i : Nat) : Int) with
        | none => rfl
        | some x =>
          have h2 : ((dT f i).any fun kv => decide (kv.1 = ((1 + i : Nat) : Int))) = true := by rw [dval_any, q]; rfl
          obtain ⟨p, hp, e⟩ := List.any_eq_true.mp h2
          unfold dT at hp
          obtain ⟨j, hj, rfl⟩ := List.mem_map.mp hp
          have := List.mem_range.mp hj
          have e' : (((1 + j : Nat) : Int)) = ((1 + i : Nat) : Int) := by simpa using e
          omega
      rw [hn]
      simp
    · rw [ih (by omega)]
      rfl
theorem dput_next (f : Nat → Nat) (T : Nat) (v : PyData) (hv : v = nD (f (1 + T))) : dput (dT f T) ((1 + T : Nat) : Int) v = dT f (T + 1) := by
  subst hv
  unfold dput
  rw [if_neg, dT_succ]
  intro h
  obtain ⟨p, hp, e⟩ := List.any_eq_true.mp h
  unfold dT at hp
  obtain ⟨j, hj, rfl⟩ := List.mem_map.mp hp
  have := List.mem_range.mp hj
  have e' : (((1 + j : Nat) : Int)) = ((1 + T : Nat) : Int) := by simpa using e
  omega
theorem eqv_nil (l : List Nat) : PyData.eqv (.list (l.map nD)) (.list []) = decide (l = []) := by
  cases l with
  | nil => rfl
  | cons a r => rfl
theorem shp_natl (l : List Nat) : SeqAt.shaped (.list (l.map nD)) = true := shaped_of (n := 1) (sh_lst fun x hx => by
  obtain ⟨i, _, rfl⟩ := List.mem_map.mp hx
  exact sh_int _ _) (by decide)
def T_whole_of : FSpec := pure1 fun ds d => ∃ l : List Nat, (∀ x ∈ l, x < 2 ^ 63) ∧ l.length ≤ 50000 ∧ ds = [.tuple (l.map nD)] ∧ d = npD (whF l)
def T_fractions : FSpec := pure1 fun ds d => ∃ a b : Nat, b ≤ 50000 ∧ a ≤ 1000000 ∧ ds = [.int a, .int b] ∧ d = .tuple ((fracL (quo a b)).map npD)
theorem cut_take (l : List Nat) (k : Nat) (hk : k ≤ l.length) : cutD (l.map nD) none (some (k : Int)) = (l.take k).map nD := by
  unfold cutD
  rw [List.length_map, HT.sIx_nat, Nat.min_eq_left hk]
  show List.take (k - 0) (List.drop 0 _) = _
  rw [List.drop_zero, Nat.sub_zero, ← List.map_take]
theorem setO_skip {O : Own} {p q : Addr} {o o' : OO} (h : p ≠ q) : setO ((p, o) :: O) q o' = (p, o) :: setO O q o' := by
  unfold setO
  rw [List.map_cons, if_neg h]
end Py
/-! rows mirrored -/
namespace Rg
theorem pl_mir {w s : Nat} (hw : 0 < w) (hs : s ≤ w) (k : Nat) : pl w (w - s) k = if pl w s k = 0 then 0 else w - pl w s k := by
  have h1 : (pl w (w - s) k + pl w s k) % w = 0 := by
    unfold pl
    rw [← Nat.add_mod, ← Nat.mul_add, Nat.sub_add_cancel hs, Nat.mul_mod_left]
  have h2 := pl_lt (s := w - s) (k := k) hw
  have h3 := pl_lt (s := s) (k := k) hw
  have h4 := Nat.dvd_of_mod_eq_zero h1
  obtain ⟨c, hc⟩ := h4
  have hc2 : c < 2 := by
    rcases Nat.lt_or_ge c 2 with z | z
    · exact z
    · have : w * 2 ≤ w * c := Nat.mul_le_mul_left _ z
      omega
  have hc3 : c = 0 ∨ c = 1 := by omega
  rcases hc3 with rfl | rfl
  · split <;> omega
  · split <;> omega
theorem gcd_mir {w s : Nat} (hs : s ≤ w) : Nat.gcd w (w - s) = Nat.gcd w s := by
  apply Nat.dvd_antisymm
  · refine Nat.dvd_gcd (Nat.gcd_dvd_left _ _) ?_
    have h1 := Nat.gcd_dvd_left w (w - s)
    have h2 := Nat.gcd_dvd_right w (w - s)
    have e : s = w - (w - s) := by omega
    rw [e]
    have h3 := Nat.dvd_sub h1 h2
    rw [← e]
    rw [← e] at h3
    exact h3
  · exact Nat.dvd_gcd (Nat.gcd_dvd_left _ _) (Nat.dvd_sub (Nat.gcd_dvd_left w s) (Nat.gcd_dvd_right w s))
theorem tn_mir {w s : Nat} (hs : s ≤ w) : tn w (w - s) = tn w s := by unfold tn; rw [gcd_mir hs]
theorem ord_uniq {w s m : Nat} (hw : 0 < w) (hm : m ≤ tn w s) {l : List Nat} (hp : l.Perm (List.range m)) (hl : l.Pairwise fun i j => pl w s i < pl w s j) : ordL w s m = l :=
  List.Perm.eq_of_pairwise (le := fun i j => pl w s i < pl w s j) (fun a b _ _ h1 h2 => absurd (Nat.lt_trans h1 h2) (Nat.lt_irrefl _)) (ordL_sorted hw hm) hl ((ordL_perm hw hm).trans hp.symm)
theorem ordL_cons {w s m : Nat} (hw : 0 < w) (hm : m ≤ tn w s) (h0 : 0 < m) : ∃ t, ordL w s m = 0 :: t := by
  have hl := ordL_len hw hm
  have hz := ordL_zero hw hm h0
  cases h : ordL w s m with
  | nil => rw [h] at hl; simp at hl; omega
  | cons x r =>
    have : (ordL w s m)[0]'(by omega) = x := by simp [h]
    rw [hz] at this
    exact ⟨r, by rw [this]⟩
theorem ord_mir {w s m : Nat} (hw : 0 < w) (hs : s ≤ w) (hm : m ≤ tn w s) (h0 : 0 < m) : ordL w (w - s) m = 0 :: (ordL w s m).tail.reverse := by
  obtain ⟨t, e⟩ := ordL_cons hw hm h0
  have hp := ordL_perm hw hm
  have hso := ordL_sorted hw hm
  rw [e] at hp hso ⊢
  obtain ⟨s1, s2⟩ := List.pairwise_cons.mp hso
  have hpos : ∀ j ∈ t, pl w s j ≠ 0 := fun j hj z => by
    have := s1 j hj
    rw [pl_zero] at this
    omega
  refine ord_uniq hw (by rw [tn_mir hs]; exact hm) ?_ ?_
  · exact ((List.reverse_perm t).cons 0).trans hp
  · refine List.pairwise_cons.mpr ⟨fun j hj => ?_, ?_⟩
    · have hj' : j ∈ t := List.mem_reverse.mp hj
      rw [pl_zero, pl_mir hw hs, if_neg (hpos j hj')]
      have := pl_lt (s := s) (k := j) hw
      omega
    · rw [List.tail_cons, List.pairwise_reverse]
      refine List.Pairwise.imp_of_mem ?_ s2
      intro i j hi hj hij
      rw [pl_mir hw hs, pl_mir hw hs, if_neg (hpos i hi), if_neg (hpos j hj)]
      have := pl_lt (s := s) (k := j) hw
      omega
/-- places in order, the ring's end behind them -/
def plP (w s m i : Nat) : Nat := if i < m then pl w s ((ordL w s m).getD i 0) else w
theorem gapL_P {w s m : Nat} (hw : 0 < w) (hm : m ≤ tn w s) : gapL w s m = (List.range m).map fun i => plP w s m (i + 1) - plP w s m i := by
  rw [gapL_range hw hm]
  apply List.map_congr_left
  intro i hi
  have hi' := List.mem_range.mp hi
  unfold nxtP plP
  rw [if_pos hi']
theorem ord_mir_at {w s m i : Nat} (hw : 0 < w) (hs : s ≤ w) (hm : m ≤ tn w s) (h1 : 1 ≤ i) (hi : i < m) : (ordL w (w - s) m).getD i 0 = (ordL w s m).getD (m - i) 0 := by
  have hl := ordL_len hw hm
  obtain ⟨t, e⟩ := ordL_cons hw hm (by omega)
  rw [ord_mir hw hs hm (by omega)]
  rw [e] at hl ⊢
  rw [List.length_cons] at hl
  obtain ⟨j, rfl⟩ : ∃ j, i = j + 1 := ⟨i - 1, by omega⟩
  rw [List.getD_cons_succ, List.tail_cons, List.getD_eq_getElem?_getD, List.getElem?_reverse (by omega), show m - (j + 1) = (t.length - 1 - j) + 1 by omega, List.getD_cons_succ, List.getD_eq_getElem?_getD]
theorem ord_pos {w s m i : Nat} (hw : 0 < w) (hm : m ≤ tn w s) (h1 : 1 ≤ i) (hi : i < m) : 0 < pl w s ((ordL w s m).getD i 0) := by
  have hl := ordL_len hw hm
  have h2 := ordL_mono hw hm (show 0 < i by omega) (show i < (ordL w s m).length by omega)
  rw [List.getD_eq_getElem?_getD, List.getElem?_eq_getElem (by omega)]
  exact Nat.lt_of_le_of_lt (Nat.zero_le _) h2
theorem ord_get0 {w s m : Nat} (hw : 0 < w) (hm : m ≤ tn w s) (h0 : 0 < m) : (ordL w s m).getD 0 0 = 0 := by
  obtain ⟨t, e⟩ := ordL_cons hw hm h0
  rw [e]
  rfl
theorem plP_mir {w s m i : Nat} (hw : 0 < w) (hs : s ≤ w) (hm : m ≤ tn w s) (h0 : 0 < m) (hi : i ≤ m) : plP w (w - s) m i = w - plP w s m (m - i) := by
  have hm' : m ≤ tn w (w - s) := by rw [tn_mir hs]; exact hm
  unfold plP
  by_cases e : i = 0
  · subst e
    rw [if_pos h0, ord_get0 hw hm' h0, pl_zero, Nat.sub_zero, if_neg (Nat.lt_irrefl _), Nat.sub_self]
  · by_cases e2 : i = m
    · subst e2
      rw [if_neg (Nat.lt_irrefl _), Nat.sub_self, if_pos h0, ord_get0 hw hm h0, pl_zero, Nat.sub_zero]
    · rw [if_pos (by omega), if_pos (by omega), ord_mir_at hw hs hm (by omega) (by omega), pl_mir hw hs, if_neg (Nat.ne_of_gt (ord_pos hw hm (by omega) (by omega)))]
theorem plP_le {w s m i : Nat} (hw : 0 < w) : plP w s m i ≤ w := by
  unfold plP
  split
  · exact Nat.le_of_lt (pl_lt hw)
  · exact Nat.le_refl _
theorem gap_mir {w s m : Nat} (hw : 0 < w) (hs : s ≤ w) (hm : m ≤ tn w s) (h0 : 0 < m) : gapL w (w - s) m = (gapL w s m).reverse := by
  rw [gapL_P hw (by rw [tn_mir hs]; exact hm), gapL_P hw hm]
  apply List.ext_getElem
  · simp
  · intro i h1 h2
    have hi : i < m := by simpa using h1
    rw [List.getElem_map, List.getElem_range, List.getElem_reverse, List.getElem_map, List.getElem_range, plP_mir hw hs hm h0 (by omega), plP_mir hw hs hm h0 (by omega)]
    simp only [List.length_map, List.length_range]
    have e1 : m - 1 - i + 1 = m - i := by omega
    have e2 : m - (i + 1) = m - 1 - i := by omega
    rw [e1, e2]
    have := plP_le (s := s) (m := m) (i := m - i) hw
    have := plP_le (s := s) (m := m) (i := m - 1 - i) hw
    omega
theorem len_mir {w s m : Nat} (hw : 0 < w) (hs : s ≤ w) (hm : m ≤ tn w s) (h0 : 0 < m) : lenL w (w - s) m = lenL w s m := by
  unfold lenL
  rw [gap_mir hw hs hm h0]
  apply List.filter_congr
  intro g _
  simp
theorem gapN_at {w s m i : Nat} (hw : 0 < w) (hm : m ≤ tn w s) (hi : i < m) : gapN w s m ((ordL w s m).getD i 0) = (gapL w s m).getD i 0 := (gapL_getD hw hm hi).symm
theorem rgt_mir {w s m : Nat} (hw : 0 < w) (hs : s ≤ w) (hm : m ≤ tn w s) (h0 : 0 < m) : rgt w (w - s) m = lft w s m := by
  by_cases h1 : m = 1
  · subst h1
    rw [rgt_one, lft_one hw]
  · have hm' : m ≤ tn w (w - s) := by rw [tn_mir hs]; exact hm
    have hl := ordL_len hw hm
    have hg := gapL_len hw hm
    have hla : (ordL w s m).getLastD 0 = (ordL w s m).getD (m - 1) 0 := by
      rw [List.getLastD_eq_getLast?, List.getLast?_eq_getElem?, hl, List.getD_eq_getElem?_getD]
    unfold rgt lft
    rw [if_neg h1, hla, ord_mir_at hw hs hm (by omega) (by omega), gapN_at hw hm (by omega)]
    have e0 := gapN_at hw hm' h0
    rw [ord_get0 hw hm' h0] at e0
    have e3 : (gapL w s m).reverse.getD 0 0 = (gapL w s m).getD (m - 1) 0 := by
      rw [List.getD_eq_getElem?_getD, List.getElem?_reverse (by omega), List.getD_eq_getElem?_getD, hg]
      rfl
    rw [e0, gap_mir hw hs hm h0, e3]
theorem lft_mir {w s m : Nat} (hw : 0 < w) (hs : s ≤ w) (hm : m ≤ tn w s) (h0 : 0 < m) : lft w (w - s) m = rgt w s m := by
  have hm' : m ≤ tn w (w - s) := by rw [tn_mir hs]; exact hm
  have h := rgt_mir (s := w - s) hw (by omega) hm' h0
  rw [show w - (w - s) = s by omega] at h
  exact h.symm
theorem nx_mir {w s m k : Nat} (hw : 0 < w) (hs : s ≤ w) (hm : m ≤ tn w s) (hk : k < m) : nx w (w - s) m (nx w s m k) = k := by
  have hm' : m ≤ tn w (w - s) := by rw [tn_mir hs]; exact hm
  have hl := ordL_len hw hm
  have h0 : 0 < m := by omega
  obtain ⟨i, hi, e⟩ := List.getElem_of_mem ((ordL_mem hw hm).mpr hk)
  have hi' : i < m := by omega
  have ek : (ordL w s m).getD i 0 = k := by rw [List.getD_eq_getElem?_getD, List.getElem?_eq_getElem hi, e]; rfl
  have r1 := rnd_nx hw hm hi'
  have g1 : ∀ j, j < m → (rnd w s m).getD j 0 = (ordL w s m).getD j 0 := fun j hj => by
    unfold rnd
    rw [List.getD_eq_getElem?_getD, List.getElem?_append_left (by omega), List.getD_eq_getElem?_getD]
  have g2 : ∀ j, j < m → (rnd w (w - s) m).getD j 0 = (ordL w (w - s) m).getD j 0 := fun j hj => by
    unfold rnd
    rw [List.getD_eq_getElem?_getD, List.getElem?_append_left (by rw [ordL_len hw hm']; omega), List.getD_eq_getElem?_getD]
  have g3 : ∀ (s : Nat), m ≤ tn w s → (rnd w s m).getD m 0 = 0 := fun s hs => by
    unfold rnd
    rw [List.getD_eq_getElem?_getD, List.getElem?_append_right (by rw [ordL_len hw hs]; exact Nat.le_refl _), ordL_len hw hs, Nat.sub_self]
    rfl
  rw [g1 i hi', ek] at r1
  rw [r1]
  by_cases e1 : i + 1 = m
  · rw [e1, g3 s hm]
    have r2 := rnd_nx hw hm' h0
    rw [g2 0 h0, ord_get0 hw hm' h0] at r2
    rw [r2]
    by_cases e2 : m = 1
    · have e3 : 0 + 1 = m := by omega
      rw [e3, g3 _ hm']
      omega
    · rw [g2 1 (by omega), ord_mir_at hw hs hm (by omega) (by omega), ← ek, show m - (0 + 1) = i by omega]
  · rw [g1 (i + 1) (by omega)]
    have r2 := rnd_nx hw hm' (show m - (i + 1) < m by omega)
    rw [g2 _ (by omega), ord_mir_at hw hs hm (by omega) (by omega), show m - (m - (i + 1)) = i + 1 by omega] at r2
    rw [r2, show m - (i + 1) + 1 = m - i by omega]
    by_cases e2 : i = 0
    · subst e2
      rw [Nat.sub_zero, g3 _ hm', ← ek, ord_get0 hw hm h0]
    · rw [g2 _ (by omega), ord_mir_at hw hs hm (by omega) (by omega), show m - (m - i) = i by omega, ek]
/-- twice -/
theorem pl_twice (w s k : Nat) : pl (2 * w) (2 * s) k = 2 * pl w s k := by
  unfold pl
  rw [show k * (2 * s) = 2 * (k * s) by rw [Nat.mul_left_comm], Nat.mul_mod_mul_left]
theorem tn_twice (w s : Nat) : tn (2 * w) (2 * s) = tn w s := by
  unfold tn
  rw [Nat.gcd_mul_left, Nat.mul_div_mul_left _ _ (by decide)]
theorem ord_twice {w s m : Nat} (hw : 0 < w) (hm : m ≤ tn w s) : ordL (2 * w) (2 * s) m = ordL w s m := by
  refine ord_uniq (by omega) (by rw [tn_twice]; exact hm) (ordL_perm hw hm) ((ordL_sorted hw hm).imp ?_)
  intro i j hij
  rw [pl_twice, pl_twice]
  omega
theorem gap_twice {w s m : Nat} (hw : 0 < w) (hm : m ≤ tn w s) : gapL (2 * w) (2 * s) m = (gapL w s m).map (2 * ·) := by
  rw [gapL_P (by omega) (by rw [tn_twice]; exact hm), gapL_P hw hm, List.map_map]
  apply List.map_congr_left
  intro i _
  show _ = 2 * (plP w s m (i + 1) - plP w s m i)
  have e : ∀ i, plP (2 * w) (2 * s) m i = 2 * plP w s m i := fun i => by
    unfold plP
    rw [ord_twice hw hm]
    split
    · rw [pl_twice]
    · rfl
  rw [e, e]
  omega
end Rg
namespace Py
open PySem PySem.Spec PyProof.Rows L2 Rg
def T_mirror : FSpec := pure1 fun ds d => ∃ w s m : Nat, Row w s m ∧ ds = [rowD w s m] ∧ d = rowD w (w - s) m
theorem row_mir {w s m : Nat} (h : Row w s m) : Row w (w - s) m := ⟨h.w1, by have := h.sw; omega, by have := h.s0; have := h.sw; omega, h.m0, by rw [tn_mir (Nat.le_of_lt h.sw)]; exact h.m1⟩
theorem cnt_mir {w s m : Nat} (h : Row w s m) : cntP w (w - s) m = cntP w s m := by
  unfold cntP
  rw [len_mir h.w0 (Nat.le_of_lt h.sw) h.m1 h.m0, gap_mir h.w0 (Nat.le_of_lt h.sw) h.m1 h.m0]
  apply List.map_congr_left
  intro g _
  rw [List.count_reverse]
theorem cut_mir {w s m : Nat} (h : Row w s m) (hm : m < tn w s) : cutT w (w - s) m = .tuple [nD (bhd w s m).2, nD (ahd w s m).2, nD ((bhd w s m).1 - pl w s m), nD (pl w s m - (ahd w s m).1)] := by
  have hs := Nat.le_of_lt h.sw
  have hm' : m < tn w (w - s) := by rw [tn_mir hs]; exact hm
  have C := cut_ok h.w0 h.m0 hm
  have C' := cut_ok h.w0 h.m0 hm'
  obtain ⟨hR, _, _⟩ := rl_ok (m := m + 1) h.w0 hm (by have := h.m0; omega)
  rw [rgt_mir (m := m + 1) h.w0 hs hm (by omega), lft_mir (m := m + 1) h.w0 hs hm (by omega)] at C'
  have p1 := hR.pos hR.b0 hR.bm
  have p2 := hR.pos hR.a0 hR.am
  have l1 := hR.lt (rgt w s (m + 1)).1
  unfold cutT
  rw [C'.back, C'.on, C.back, C.on, pl_mir h.w0 hs, pl_mir h.w0 hs, if_neg (Nat.ne_of_gt p1), if_neg (Nat.ne_of_gt p2)]
  have e1 : (ahd w (w - s) m).2 = (bhd w s m).2 := by have a := C'.k; have b := C.n; omega
  have e2 : (bhd w (w - s) m).2 = (ahd w s m).2 := by have a := C'.n; have b := C.k; omega
  rw [e1, e2, show w - (w - pl w s (rgt w s (m + 1)).1) = pl w s (rgt w s (m + 1)).1 by omega]
theorem ord_drop {w s m : Nat} (h : Row w s m) : (ordL w (w - s) m).drop 1 = ((ordL w s m).drop 1).reverse := by
  rw [ord_mir h.w0 (Nat.le_of_lt h.sw) h.m1 h.m0]
  obtain ⟨t, e⟩ := ordL_cons h.w0 h.m1 h.m0
  rw [e]
  rfl
end Py
namespace Rg
open Py
/-! two steps, and rows -/
theorem pl_mod {w s : Nat} (hw : 0 < w) (k : Nat) : pl w s (k % tn w s) = pl w s k := by
  have h := (mod_eq_iff (s := s) hw (Nat.mod_le k (tn w s))).mpr (by
    have e := Nat.div_add_mod k (tn w s)
    exact ⟨k / tn w s, by omega⟩)
  exact h
/-- the places of a row, rising -/
def plL (w s m : Nat) : List Nat := (ordL w s m).map (pl w s)
theorem plL_mem {w s m x : Nat} (hw : 0 < w) (hm : m ≤ tn w s) : x ∈ plL w s m ↔ ∃ k, k < m ∧ pl w s k = x := by
  unfold plL
  rw [List.mem_map]
  constructor
  · rintro ⟨k, hk, e⟩; exact ⟨k, (ordL_mem hw hm).mp hk, e⟩
  · rintro ⟨k, hk, e⟩; exact ⟨k, (ordL_mem hw hm).mpr hk, e⟩
theorem plL_sorted {w s m : Nat} (hw : 0 < w) (hm : m ≤ tn w s) : (plL w s m).Pairwise (· < ·) := List.pairwise_map.mpr (ordL_sorted hw hm)
theorem plL_perm {w s m : Nat} (hw : 0 < w) (hm : m ≤ tn w s) : (plL w s m).Perm ((List.range m).map (pl w s)) := (ordL_perm hw hm).map _
theorem plL_len {w s m : Nat} (hw : 0 < w) (hm : m ≤ tn w s) : (plL w s m).length = m := by
  unfold plL
  rw [List.length_map, ordL_len hw hm]
theorem plc_ext {w a b m n : Nat} (hw : 0 < w) {l : List Nat} (hl : l.Pairwise (· < ·)) (h : ∀ x, x ∈ l ↔ ∃ i, i < m ∧ ∃ j, j < n ∧ (i * a + j * b) % w = x) : plcD w a b m n = l :=
  sorted_ext (plcD_sorted w a b m n) hl fun x => (plcD_mem hw).trans (h x).symm
theorem plcD_row {w a b m : Nat} (hw : 0 < w) (h0 : 0 < m) : plcD w a b m 1 = plL w a (min (tn w a) m) := by
  refine plc_ext hw (plL_sorted hw (Nat.min_le_left _ _)) fun x => (plL_mem hw (Nat.min_le_left _ _)).trans ?_
  constructor
  · rintro ⟨k, hk, e⟩
    exact ⟨k, by omega, 0, by omega, by rw [Nat.zero_mul, Nat.add_zero]; exact e⟩
  · rintro ⟨i, hi, j, hj, e⟩
    obtain rfl : j = 0 := by omega
    rw [Nat.zero_mul, Nat.add_zero] at e
    have ht := Nat.mod_lt i (tn_pos (s := a) hw)
    have hle := Nat.mod_le i (tn w a)
    exact ⟨i % tn w a, by omega, (pl_mod hw i).trans e⟩
theorem plcD_twice {w a m n : Nat} (hw : 0 < w) (h0 : 0 < m) (h1 : 0 < n) : plcD w a a m n = plL w a (min (tn w a) (m + n - 1)) := by
  refine plc_ext hw (plL_sorted hw (Nat.min_le_left _ _)) fun x => (plL_mem hw (Nat.min_le_left _ _)).trans ?_
  constructor
  · rintro ⟨k, hk, e⟩
    refine ⟨min k (m - 1), by omega, k - min k (m - 1), by omega, ?_⟩
    rw [← Nat.add_mul]
    have : min k (m - 1) + (k - min k (m - 1)) = k := by omega
    rw [this]
    exact e
  · rintro ⟨i, hi, j, hj, e⟩
    rw [← Nat.add_mul] at e
    have ht := Nat.mod_lt (i + j) (tn_pos (s := a) hw)
    have hle := Nat.mod_le (i + j) (tn w a)
    exact ⟨(i + j) % tn w a, by omega, (pl_mod hw (i + j)).trans e⟩
theorem plcD_swap {w a b m n : Nat} (hw : 0 < w) : plcD w b a n m = plcD w a b m n := by
  refine plc_ext hw (plcD_sorted _ _ _ _ _) fun x => (plcD_mem hw).trans ?_
  constructor
  · rintro ⟨i, hi, j, hj, e⟩
    exact ⟨j, hj, i, hi, by rw [Nat.add_comm]; exact e⟩
  · rintro ⟨i, hi, j, hj, e⟩
    exact ⟨j, hj, i, hi, by rw [Nat.add_comm]; exact e⟩
theorem plcD_more {w a b m n x : Nat} (hw : 0 < w) : x ∈ plcD w a b (m + 1) n ↔ x ∈ plcD w a b m n ++ (List.range n).map fun j => (m * a + j * b) % w := by
  rw [plcD_mem hw, List.mem_append, plcD_mem hw, List.mem_map]
  constructor
  · rintro ⟨i, hi, j, hj, e⟩
    by_cases h : i = m
    · subst h; exact .inr ⟨j, List.mem_range.mpr hj, e⟩
    · exact .inl ⟨i, by omega, j, hj, e⟩
  · rintro (⟨i, hi, j, hj, e⟩ | ⟨j, hj, e⟩)
    · exact ⟨i, by omega, j, hj, e⟩
    · exact ⟨m, by omega, j, List.mem_range.mp hj, e⟩
theorem sorted_extI : ∀ {l r : List Int}, l.Pairwise (· < ·) → r.Pairwise (· < ·) → (∀ x, x ∈ l ↔ x ∈ r) → l = r := by
  intro l r hl hr hm
  refine List.Perm.eq_of_pairwise (le := (· < ·)) (fun a b _ _ h1 h2 => absurd (Int.lt_trans h1 h2) (Int.lt_irrefl _)) hl hr ?_
  have nd : ∀ {l : List Int}, l.Pairwise (· < ·) → l.Nodup := fun h => h.imp fun {a b} (z : a < b) (e : a = b) => by omega
  exact (List.perm_ext_iff_of_nodup (nd hl) (nd hr)).mpr hm
theorem iL_sorted {l : List Nat} (h : l.Pairwise (· < ·)) : (Py.iL l).Pairwise (· < ·) := List.pairwise_map.mpr (h.imp fun {a b} z => by omega)
theorem srtI_eq {l : List Int} {r : List Nat} (h : r.Pairwise (· < ·)) (hm : ∀ x : Int, x ∈ l ↔ x ∈ Py.iL r) : srtI l = Py.iL r := sorted_extI (srtI_sorted l) (iL_sorted h) fun x => srtI_mem.trans (hm x)
theorem gpD_row {w a b m : Nat} (hw : 0 < w) (h0 : 0 < m) : gpD w a b m 1 = Py.iL (gapL w a (min (tn w a) m)) := by
  have hm := Nat.min_le_left (tn w a) m
  unfold gpD
  rw [plcD_row hw h0, gapL_range hw hm, plL_len hw hm]
  show _ = (List.map _ _).map _
  rw [List.map_map]
  apply List.map_congr_left
  intro i hi
  have hi' := List.mem_range.mp hi
  have hol := ordL_len hw hm
  have hge := nxtP_ge hw hm hi'
  have e1 : (plL w a (min (tn w a) m)).getD i 0 = pl w a ((ordL w a (min (tn w a) m)).getD i 0) := by
    unfold plL
    rw [List.getD_eq_getElem?_getD, List.getD_eq_getElem?_getD, List.getElem?_map, List.getElem?_eq_getElem (by omega)]
    rfl
  have e2 : (plL w a (min (tn w a) m) ++ [w]).getD (i + 1) 0 = nxtP w a (min (tn w a) m) i := by
    unfold nxtP
    split
    · rename_i hlt
      unfold plL
      rw [List.getD_eq_getElem?_getD, List.getD_eq_getElem?_getD, List.getElem?_append_left (by rw [List.length_map]; omega), List.getElem?_map, List.getElem?_eq_getElem (by omega)]
      rfl
    · rename_i hlt
      have hp := plL_len hw hm
      have e : i + 1 = (plL w a (min (tn w a) m)).length := by omega
      rw [List.getD_eq_getElem?_getD, List.getElem?_append_right (by omega), e]
      simp
  show (((plL w a (min (tn w a) m) ++ [w]).getD (i + 1) 0 : Nat) : Int) - ((plL w a (min (tn w a) m)).getD i 0 : Nat) = (((nxtP w a (min (tn w a) m) i - pl w a ((ordL w a (min (tn w a) m)).getD i 0)) : Nat) : Int)
  rw [e1, e2]
  omega
theorem srt_row {w a b m : Nat} (hw : 0 < w) (h0 : 0 < m) : srtI (gpD w a b m 1) = Py.iL (lenL w a (min (tn w a) m)) := by
  have hm := Nat.min_le_left (tn w a) m
  refine srtI_eq (lenL_sorted _ _ _) fun x => ?_
  rw [gpD_row hw h0, Py.iL_mem, Py.iL_mem]
  constructor
  · rintro ⟨n, h, e⟩; exact ⟨n, (lenL_mem hw hm).mpr h, e⟩
  · rintro ⟨n, h, e⟩; exact ⟨n, (lenL_mem hw hm).mp h, e⟩
theorem tele (f : Nat → Int) : ∀ n : Nat, ((List.range n).map fun i => f (i + 1) - f i).sum = f n - f 0
  | 0 => by simp
  | n + 1 => by
    rw [List.range_succ, List.map_append, List.sum_append, tele f n]
    simp
    omega
theorem gpD_sum {w a b m n : Nat} (hw : 0 < w) (h0 : 0 < m) (h1 : 0 < n) : (gpD w a b m n).sum = (w : Int) := by
  have hz : (0 : Nat) ∈ plcD w a b m n := (plcD_mem hw).mpr ⟨0, h0, 0, h1, by simp⟩
  have hs := plcD_sorted w a b m n
  unfold gpD
  generalize plcD w a b m n = l at hz hs ⊢
  have hl := List.length_pos_of_mem hz
  have e0 : l.getD 0 0 = 0 := by
    cases l with
    | nil => rfl
    | cons x t =>
      show x = 0
      rcases List.mem_cons.mp hz with e | e
      · exact e.symm
      · have := (List.pairwise_cons.mp hs).1 _ e
        omega
  have e : ((List.range l.length).map fun i => (((l ++ [w]).getD (i + 1) 0 : Nat) : Int) - (l.getD i 0 : Nat)) = (List.range l.length).map fun i => (((l ++ [w]).getD (i + 1) 0 : Nat) : Int) - ((l ++ [w]).getD i 0 : Nat) := by
    apply List.map_congr_left
    intro i hi
    have hi' := List.mem_range.mp hi
    have : (l ++ [w]).getD i 0 = l.getD i 0 := by
      rw [List.getD_eq_getElem?_getD, List.getD_eq_getElem?_getD, List.getElem?_append_left hi']
    rw [this]
  rw [e, tele (fun i => (((l ++ [w]).getD i 0 : Nat) : Int)) l.length]
  have e1 : (l ++ [w]).getD l.length 0 = w := by
    rw [List.getD_eq_getElem?_getD, List.getElem?_append_right (Nat.le_refl _)]
    simp
  have e2 : (l ++ [w]).getD 0 0 = 0 := by
    rw [List.getD_eq_getElem?_getD, List.getElem?_append_left hl, ← List.getD_eq_getElem?_getD, e0]
  rw [e1, e2]
  omega
theorem fa2_swap (w a b k : Nat) : fa2 w a b k = fa2 w b a k := Nat.max_comm _ _
theorem bn_swap (w a b : Nat) : ∀ k, bn w a b k = bn w b a k
  | 0 => rfl
  | k + 1 => by
    unfold bn
    rw [bn_swap w a b k, fa2_swap w a b]
theorem fa2_one (w a k : Nat) : fa2 w a a k = nF w a k := Nat.max_self _
theorem nF_pos {w a k : Nat} (hw : 0 < w) (h0 : 0 < k) (hk : k < tn w a) : 0 < nF w a k ∧ nF w a k < w := by
  have h1 := pl_pos (s := a) hw h0 hk
  have h2 := pl_lt (s := a) (k := k) hw
  unfold pl at h1 h2
  unfold nF
  omega
theorem bn_rec {w a : Nat} (hw : 0 < w) : ∀ k, k < tn w a → (bn w a a k).1 = recF (nF w a) k ∧ 0 < (bn w a a k).2 ∧ (∀ j, j < k → (bn w a a k).2 ≤ nF w a (1 + j)) ∧ ((k = 0 ∧ (bn w a a k).2 = w) ∨ ∃ j, j < k ∧ (bn w a a k).2 = nF w a (1 + j))
  | 0, _ => ⟨rfl, hw, fun j hj => absurd hj (Nat.not_lt_zero _), .inl ⟨rfl, rfl⟩⟩
  | k + 1, hk => by
    obtain ⟨h1, h2, h3, h4⟩ := bn_rec (a := a) hw k (by omega)
    have hp := nF_pos (a := a) hw (show 0 < k + 1 by omega) hk
    rw [recF_succ]
    by_cases hc : nF w a (k + 1) < (bn w a a k).2
    · have e : bn w a a (k + 1) = ((bn w a a k).1 ++ [k + 1], nF w a (k + 1)) := by
        show (if fa2 w a a (k + 1) < _ then _ else _) = _
        rw [fa2_one, if_pos hc]
      rw [e]
      refine ⟨?_, hp.1, fun j hj => ?_, .inr ⟨k, by omega, by rw [Nat.add_comm 1 k]⟩⟩
      · rw [if_pos, h1, Nat.add_comm 1 k]
        intro j hj
        have := h3 j hj
        rw [Nat.add_comm 1 k]
        omega
      · show nF w a (k + 1) ≤ _
        by_cases e : j = k
        · subst e; rw [Nat.add_comm 1 j]; exact Nat.le_refl _
        · have := h3 j (by omega)
          omega
    · have e : bn w a a (k + 1) = bn w a a k := by
        show (if fa2 w a a (k + 1) < _ then _ else _) = _
        rw [fa2_one, if_neg hc]
      have hk0 : k ≠ 0 := by
        rintro rfl
        apply hc
        exact hp.2
      rcases h4 with ⟨z, _⟩ | ⟨j0, hj0, ej⟩
      · exact absurd z hk0
      · rw [e]
        refine ⟨?_, h2, fun j hj => ?_, .inr ⟨j0, by omega, ej⟩⟩
        · rw [if_neg, h1, List.append_nil]
          intro z
          have := z j0 hj0
          rw [Nat.add_comm 1 k] at this
          omega
        · by_cases e : j = k
          · subst e; rw [Nat.add_comm 1 j]; omega
          · exact h3 j (by omega)
theorem bn_all {w a : Nat} (hw : 0 < w) : (bn w a a w).1 = recF (nF w a) (tn w a - 1) ++ [tn w a] := by
  have ht := tn_pos (s := a) hw
  obtain ⟨h1, h2, h3, h4⟩ := bn_rec (a := a) hw (tn w a - 1) (by omega)
  have hz : nF w a (tn w a - 1 + 1) = 0 := by
    have := (mul_mod_zero (w := w) (s := a) (k := tn w a) hw).mpr (Nat.dvd_refl _)
    unfold nF
    rw [Nat.sub_add_cancel ht, this]
    omega
  have e : bn w a a (tn w a - 1 + 1) = ((bn w a a (tn w a - 1)).1 ++ [tn w a - 1 + 1], nF w a (tn w a - 1 + 1)) := by
    show (if fa2 w a a (tn w a - 1 + 1) < _ then _ else _) = _
    rw [fa2_one, if_pos (by rw [hz]; exact h2)]
  rw [bn_end (k := tn w a - 1 + 1) (by rw [e]; exact hz) (by have := tn_le w a; omega), e, h1, Nat.sub_add_cancel ht]
theorem recF_lt {f : Nat → Nat} {T x : Nat} (h : x ∈ recF f T) : 1 ≤ x ∧ x ≤ T := by
  unfold recF at h
  obtain ⟨i, hi, e⟩ := List.mem_map.mp h
  have := List.mem_range.mp (List.mem_filter.mp hi).1
  omega
theorem recF_keep (f : Nat → Nat) (T t : Nat) (h : T < t) : ((recF f T).filter fun k => decide (k < t)) = recF f T := List.filter_eq_self.mpr fun x hx => by
  have := recF_lt hx
  exact decide_eq_true (by omega)
theorem recF_len (f : Nat → Nat) (T : Nat) : (recF f T).length ≤ T := by
  unfold recF
  rw [List.length_map]
  have := List.length_filter_le (fun i => (List.range i).all fun j => decide (f (1 + i) < f (1 + j))) (List.range T)
  simpa using this
end Rg
namespace Rg
open Py
/-! how many gaps of each length -/
theorem sum_count : ∀ (l D : List Nat), D.Nodup → (∀ x ∈ l, x ∈ D) → (D.map fun g => g * l.count g).sum = l.sum ∧ (D.map fun g => l.count g).sum = l.length
  | [], D, _, _ => by
    constructor <;> induction D <;> simp_all
  | x :: l, D, nd, hs => by
    have ih := sum_count l D nd fun y hy => hs y (List.mem_cons_of_mem _ hy)
    have hx := hs x List.mem_cons_self
    have key : ∀ (D : List Nat), D.Nodup → (D.map fun g => g * (x :: l).count g).sum = (D.map fun g => g * l.count g).sum + (if x ∈ D then x else 0) ∧ (D.map fun g => (x :: l).count g).sum = (D.map fun g => l.count g).sum + (if x ∈ D then 1 else 0) := by
      intro D
      induction D with
      | nil => intro _; simp
      | cons d D ihD =>
        intro nd
        have h1 := List.nodup_cons.mp nd
        obtain ⟨i1, i2⟩ := ihD h1.2
        simp only [List.map_cons, List.sum_cons]
        rw [i1, i2, List.count_cons]
        by_cases e : x = d
        · subst e
          simp [h1.1, Nat.mul_add]
          omega
        · simp [e]
          constructor <;> omega
    obtain ⟨k1, k2⟩ := key D nd
    rw [k1, k2, ih.1, ih.2, if_pos hx, if_pos hx, List.sum_cons, List.length_cons]
    omega
theorem cnt_sums {w s m : Nat} (hw : 0 < w) (hm : m ≤ tn w s) (h0 : 0 < m) : ((cntP w s m).map fun p => p.1 * p.2).sum = w ∧ ((cntP w s m).map fun p => p.2).sum = m := by
  have h := sum_count (gapL w s m) (lenL w s m) (nodup_lt (lenL_sorted w s m)) fun x hx => (lenL_mem hw hm).mpr hx
  unfold cntP
  rw [List.map_map, List.map_map]
  exact ⟨h.1.trans (gapL_sum hw hm h0), h.2.trans (gapL_len hw hm)⟩
theorem len_le3 {w s m : Nat} (hw : 0 < w) (hm : m ≤ tn w s) (h0 : 0 < m) : 1 ≤ (lenL w s m).length ∧ (lenL w s m).length ≤ 3 ∧ ((lenL w s m).length = 3 → (lenL w s m).getD 2 0 = (lenL w s m).getD 0 0 + (lenL w s m).getD 1 0) := by
  rcases Nat.lt_or_ge 1 m with h2 | h2
  · rw [lenL_three (rl_ok hw hm h2).1]
    unfold len3
    generalize pl w s (rgt w s m).1 = A
    generalize w - pl w s (lft w s m).1 = B
    split
    · split <;> simp
    · split <;> split <;> simp
      omega
  · obtain rfl : m = 1 := by omega
    rw [lenL_one hw]
    simp
theorem wide_len {w s m : Nat} (hw : 0 < w) (hm : m ≤ tn w s) : (wideL w s m).length = (gapL w s m).count ((lenL w s m).getLastD 0) := by
  rw [(wideL_perm hw hm).length_eq]
  unfold gapL
  rw [List.count_eq_countP, List.countP_map, List.countP_eq_length_filter]
  rfl
/-! how often, by the points right and left -/
def lk (acc : List (Nat × Nat)) (g : Nat) : Nat := ((acc.find? fun p => decide (p.1 = g)).map (·.2)).getD 0
def adN (acc : List (Nat × Nat)) (p : Nat × Nat) : List (Nat × Nat) := if (acc.any fun q => decide (q.1 = p.1)) = true then acc.map (fun q => if q.1 = p.1 then (q.1, lk acc p.1 + p.2) else q) else acc ++ [(p.1, lk acc p.1 + p.2)]
def dD (acc : List (Nat × Nat)) : List (Int × PySem.PyData) := acc.map fun p => ((p.1 : Int), nD p.2)
theorem adN_len (acc : List (Nat × Nat)) (p : Nat × Nat) : (adN acc p).length ≤ acc.length + 1 := by
  unfold adN
  split <;> simp
theorem dD_val (g : Nat) : ∀ acc : List (Nat × Nat), (dval (dD acc) (g : Int)).getD (.int 0) = nD (lk acc g)
  | [] => rfl
  | p :: acc => by
    show (dval (((p.1 : Int), nD p.2) :: dD acc) (g : Int)).getD (.int 0) = _
    rw [dval_cons]
    unfold lk
    rw [List.find?_cons]
    by_cases e : p.1 = g
    · rw [if_pos (by omega), decide_eq_true e]; rfl
    · rw [if_neg (by omega), decide_eq_false e]
      exact dD_val g acc
theorem dD_put (acc : List (Nat × Nat)) (p : Nat × Nat) : dput (dD acc) (p.1 : Int) (nD (lk acc p.1 + p.2)) = dD (adN acc p) := by
  have e : ((dD acc).any fun kv => decide (kv.1 = (p.1 : Int))) = (acc.any fun q => decide (q.1 = p.1)) := by
    unfold dD
    rw [List.any_map]
    congr 1
    funext q
    exact decide_eq_decide.mpr (by show (q.1 : Int) = p.1 ↔ _; omega)
  unfold dput adN
  rw [e]
  split
  · unfold dD
    rw [List.map_map, List.map_map]
    apply List.map_congr_left
    intro q _
    show (if (q.1 : Int) = (p.1 : Int) then _ else _) = _
    by_cases e : q.1 = p.1
    · rw [if_pos (by omega)]
      show _ = (((if q.1 = p.1 then (q.1, lk acc p.1 + p.2) else q).1 : Int), nD (if q.1 = p.1 then (q.1, lk acc p.1 + p.2) else q).2)
      rw [if_pos e]
    · rw [if_neg (by omega)]
      show _ = (((if q.1 = p.1 then (q.1, lk acc p.1 + p.2) else q).1 : Int), nD (if q.1 = p.1 then (q.1, lk acc p.1 + p.2) else q).2)
      rw [if_neg e]
  · unfold dD
    rw [List.map_append]
    rfl
theorem ad_three {A B x y z : Nat} (hA : 0 < A) (hB : 0 < B) : adN (adN (adN [] (A, x)) (B, y)) (A + B, z) = if A = B then [(A, x + y), (A + B, z)] else [(A, x), (B, y), (A + B, z)] := by
  by_cases e : A = B
  · subst e
    rw [if_pos rfl]
    have z1 : ¬ A = 0 := by omega
    simp [adN, lk, z1]
  · rw [if_neg e]
    have z1 : ¬ A = 0 := by omega
    have z2 : ¬ B = 0 := by omega
    simp [adN, lk, e, z1, z2]
theorem cnt_three {w s m a b : Nat} (h : RL w s m a b) : ((adN (adN (adN [] (pl w s a, m - a)) (w - pl w s b, m - b)) (pl w s a + (w - pl w s b), a + b - m)).filter fun p => decide (0 < p.2)).Perm (cntP w s m) := by
  have hA : 0 < pl w s a := h.pos h.a0 h.am
  have hB : 0 < w - pl w s b := by have := h.lt b; omega
  have ha := h.am
  have hb := h.bm
  have hs := h.sum
  have hc : ∀ g, (gapL w s m).count g = (if pl w s a = g then m - a else 0) + ((if pl w s a + (w - pl w s b) = g then a + b - m else 0) + (if w - pl w s b = g then m - b else 0)) := by
    intro g
    rw [(gap_perm h).count_eq, List.count_append, List.count_append, List.count_replicate, List.count_replicate, List.count_replicate]
    simp only [beq_iff_eq]
  unfold cntP
  rw [lenL_three h, ad_three hA hB]
  simp only [hc]
  generalize pl w s a = A at *
  generalize w - pl w s b = B at *
  unfold len3
  have xa : 0 < m - a := by omega
  have xb : 0 < m - b := by omega
  have z1 : ¬ A = 0 := by omega
  have z2 : ¬ B = 0 := by omega
  rcases Nat.lt_trichotomy A B with e | e | e
  · have e1 : ¬ A = B := by omega
    have e2 : ¬ B = A := by omega
    rw [if_neg e1, if_pos e]
    by_cases t : m < a + b
    · have t' : 0 < a + b - m := by omega
      simp [xa, xb, e1, e2, z1, z2, t, t', ha, hb]
    · have t' : a + b - m = 0 := by omega
      simp [xa, xb, e1, e2, z1, z2, t, t', ha, hb]
  · subst e
    rw [if_pos rfl]
    have t2 : 0 < m - a + (m - b) := by omega
    by_cases t : m < a + b
    · have t' : 0 < a + b - m := by omega
      simp [z1, t, t', t2, hA, ha]
    · have t' : a + b - m = 0 := by omega
      simp [z1, t, t', t2, hA, ha]
  · have e1 : ¬ A = B := by omega
    have e2 : ¬ B = A := by omega
    have e3 : ¬ A < B := by omega
    rw [if_neg e1, if_neg e3, if_pos e]
    by_cases t : m < a + b
    · have t' : 0 < a + b - m := by omega
      simp [xa, xb, e1, e2, z1, z2, t, t', ha, hb]
      exact List.Perm.swap _ _ _
    · have t' : a + b - m = 0 := by omega
      simp [xa, xb, e1, e2, z1, z2, t, t', ha, hb]
      exact List.Perm.swap _ _ _
theorem cnt_sorted (w s m : Nat) : (cntP w s m).Pairwise fun p q => p.1 < q.1 := List.pairwise_map.mpr (lenL_sorted w s m)
theorem cnt_val {w s m g : Nat} (hw : 0 < w) (hm : m ≤ tn w s) (hg : g ∈ lenL w s m) : dval (dmerge [] ((cntP w s m).map fun p => ((p.1 : Int), nD p.2))) (g : Int) = some (nD ((gapL w s m).count g)) := by
  have nd : (((cntP w s m).map fun p => ((p.1 : Int), nD p.2)).map (·.1)).Nodup := by
    rw [List.map_map]
    refine List.Pairwise.map _ ?_ (cnt_sorted w s m)
    intro p q hpq
    show (p.1 : Int) ≠ q.1
    omega
  rw [dmerge_val _ _ _ nd fun k _ => rfl]
  unfold cntP
  rw [List.map_map]
  have key : ∀ l : List Nat, g ∈ l → dval (l.map ((fun p : Nat × Nat => ((p.1 : Int), nD p.2)) ∘ fun g => (g, (gapL w s m).count g))) (g : Int) = some (nD ((gapL w s m).count g)) := by
    intro l
    induction l with
    | nil => intro h; cases h
    | cons x l ih =>
      intro h
      rw [List.map_cons]
      show dval (((x : Int), nD ((gapL w s m).count x)) :: _) _ = _
      rw [dval_cons]
      by_cases e : x = g
      · subst e; rw [if_pos rfl]
      · rw [if_neg (by omega)]
        exact ih ((List.mem_cons.mp h).resolve_left fun z => e z.symm)
  rw [key _ hg]
  rfl
theorem neg_mod {w s b : Nat} (hw : 0 < w) (hb : 0 < pl w s b) : (0 - (b : Int) * (s : Int)) % (w : Int) = ((w - pl w s b : Nat) : Int) := by
  have h1 : ((b : Int) * (s : Int)) = (w : Int) * ((b * s / w : Nat) : Int) + ((pl w s b : Nat) : Int) := by
    unfold pl
    have := Nat.div_add_mod (b * s) w
    exact_mod_cast this.symm
  have h2 := pl_lt (s := s) (k := b) hw
  have e : (0 - (b : Int) * (s : Int)) = ((w - pl w s b : Nat) : Int) + (w : Int) * (-((b * s / w : Nat) : Int) - 1) := by
    rw [h1, Int.mul_sub, Int.mul_neg, Int.mul_one, Int.ofNat_sub (Nat.le_of_lt h2)]
    omega
  rw [e, Int.add_mul_emod_self_left, Int.emod_eq_of_lt (by omega) (by omega)]
end Rg
namespace Py
open PySem PySem.Spec PyProof.Rows L2 Rg
def T_countsM : FSpec := pureT fun ds fs => ∃ w s m : Nat, Row w s m ∧ ds = [rowD w s m] ∧ fs = (cntP w s m).map npD
end Py
namespace Rg
open Py
/-! gaps told back -/
def okS (l : List Nat) (st : Nat) : Bool := decide (l.length ≤ tn l.sum st) && decide (gapL l.sum st l.length = l)
def stepsN (l : List Nat) (n : Nat) : List Nat := ((List.range n).filter fun i => okS l (1 + i)).map fun i => 1 + i
def stepsL (l : List Nat) : List Nat := stepsN l (l.sum - 1)
theorem stepsN_succ (l : List Nat) (n : Nat) : stepsN l (n + 1) = stepsN l n ++ (if okS l (1 + n) = true then [1 + n] else []) := by
  unfold stepsN
  rw [List.range_succ, List.filter_append, List.map_append, List.filter_cons, List.filter_nil]
  split <;> rfl
theorem stepsN_len (l : List Nat) (n : Nat) : (stepsN l n).length ≤ n := by
  unfold stepsN
  rw [List.length_map]
  have := List.length_filter_le (fun i => okS l (1 + i)) (List.range n)
  simpa using this
theorem stepsL_sorted (l : List Nat) : (stepsL l).Pairwise (· < ·) := by
  unfold stepsL stepsN
  exact List.pairwise_map.mpr ((List.pairwise_lt_range.filter _).imp fun {a b} h => by omega)
theorem stepsL_mem {l : List Nat} {st : Nat} : st ∈ stepsL l ↔ 1 ≤ st ∧ st < l.sum ∧ l.length ≤ tn l.sum st ∧ gapL l.sum st l.length = l := by
  unfold stepsL stepsN okS
  rw [List.mem_map]
  constructor
  · rintro ⟨i, hi, rfl⟩
    obtain ⟨h1, h2⟩ := List.mem_filter.mp hi
    have h3 := List.mem_range.mp h1
    simp only [Bool.and_eq_true, decide_eq_true_eq] at h2
    exact ⟨by omega, by omega, h2⟩
  · rintro ⟨h1, h2, h3⟩
    refine ⟨st - 1, List.mem_filter.mpr ⟨List.mem_range.mpr (by omega), ?_⟩, by omega⟩
    rw [show 1 + (st - 1) = st by omega]
    simp only [Bool.and_eq_true, decide_eq_true_eq]
    exact h3
def rotL (l : List Nat) (at' : Nat) : List Nat := l.drop at' ++ l.take at'
theorem rot_sum (l : List Nat) (k : Nat) : (rotL l k).sum = l.sum := by
  unfold rotL
  rw [List.sum_append, Nat.add_comm, ← List.sum_append, List.take_append_drop]
theorem rot_len (l : List Nat) (k : Nat) : (rotL l k).length = l.length := by
  unfold rotL
  rw [List.length_append, List.length_drop, List.length_take]
  omega
theorem rot_zero (l : List Nat) : rotL l 0 = l := by
  unfold rotL
  simp
def anyT (l : List Nat) : Option Nat := (List.range l.length).find? fun k => decide (0 < (stepsL (rotL l k)).length)
theorem find_first {p : Nat → Bool} {n i : Nat} (hi : i < n) (hp : p i = true) (hn : ∀ j, j < i → p j = false) : (List.range n).find? p = some i := by
  rw [List.find?_eq_some_iff_append]
  refine ⟨hp, List.range i, (List.range (n - i - 1)).map (fun x => i + 1 + x), ?_, fun x hx => by rw [hn x (List.mem_range.mp hx)]; rfl⟩
  have e : n = i + (1 + (n - i - 1)) := by omega
  conv => lhs; rw [e]
  rw [List.range_add, List.range_add, List.map_append]
  simp
  intro a _
  omega
theorem anyT_some {l : List Nat} {i : Nat} (hi : i < l.length) (h : 0 < (stepsL (rotL l i)).length) (hn : ∀ j, j < i → (stepsL (rotL l j)).length = 0) : anyT l = some i :=
  find_first hi (decide_eq_true h) fun j hj => decide_eq_false (by rw [hn j hj]; omega)
theorem anyT_none {l : List Nat} (hn : ∀ j, j < l.length → (stepsL (rotL l j)).length = 0) : anyT l = none := by
  unfold anyT
  rw [List.find?_eq_none]
  intro j hj
  rw [hn j (List.mem_range.mp hj)]
  simp
theorem row_told {w s m : Nat} (h : Row w s m) : s ∈ stepsL (gapL w s m) := by
  rw [stepsL_mem, gapL_sum h.w0 h.m1 h.m0, gapL_len h.w0 h.m1]
  exact ⟨h.s0, h.sw, h.m1, rfl⟩
theorem mir_told {w s m : Nat} (h : Row w s m) : w - s ∈ stepsL (gapL w s m).reverse := by
  rw [← gap_mir h.w0 (Nat.le_of_lt h.sw) h.m1 h.m0]
  exact row_told (row_mir h)
theorem sum_set : ∀ (l : List Nat) (i x : Nat), i < l.length → (l.set i x).sum + l.getD i 0 = l.sum + x
  | [], i, x, h => by simp at h
  | a :: l, 0, x, _ => by simp; omega
  | a :: l, i + 1, x, h => by
    have := sum_set l i x (by simpa using h)
    simp only [List.set_cons_succ, List.sum_cons, List.getD_cons_succ]
    omega
/-- the place ahead, round -/
def prv (m k : Nat) : Nat := if k = 0 then m - 1 else k - 1
def newG (l : List Nat) (k : Nat) : List Nat := (l.set k (l.getD k 0 + 1)).set (prv l.length k) ((l.set k (l.getD k 0 + 1)).getD (prv l.length k) 0 - 1)
theorem newG_len (l : List Nat) (k : Nat) : (newG l k).length = l.length := by unfold newG; simp
theorem set_pos {l : List Nat} {k : Nat} (hk : k < l.length) (hp : ∀ x ∈ l, 1 ≤ x) : 1 ≤ (l.set k (l.getD k 0 + 1)).getD (prv l.length k) 0 := by
  have hlt : prv l.length k < (l.set k (l.getD k 0 + 1)).length := by unfold prv; rw [List.length_set]; split <;> omega
  rw [List.getD_eq_getElem?_getD, List.getElem?_eq_getElem hlt]
  show 1 ≤ (l.set k (l.getD k 0 + 1))[prv l.length k]
  have hm := List.getElem_mem hlt
  rcases List.mem_or_eq_of_mem_set hm with z | z
  · exact hp _ z
  · omega
theorem newG_sum {l : List Nat} {k : Nat} (hk : k < l.length) (hp : ∀ x ∈ l, 1 ≤ x) : (newG l k).sum = l.sum := by
  have h1 := sum_set l k (l.getD k 0 + 1) hk
  have h2 := sum_set (l.set k (l.getD k 0 + 1)) (prv l.length k) ((l.set k (l.getD k 0 + 1)).getD (prv l.length k) 0 - 1) (by rw [List.length_set]; unfold prv; split <;> omega)
  have h3 := set_pos hk hp
  unfold newG
  omega
theorem gapL_pos {w s m : Nat} (h : Row w s m) : ∀ x ∈ gapL w s m, 1 ≤ x := fun x hx => by
  obtain ⟨k, hk, e⟩ := (gapL_mem h.w0 h.m1).mp hx
  have := (gapN_b h.w0 hk h.m1).1
  omega
/-- if a step lays them, lengths are few -/
theorem size_ok {l : List Nat} {st : Nat} (hl : l ≠ []) (h : st ∈ stepsL l) : srtI (iL l) = iL (lenL l.sum st l.length) ∧ (lenL l.sum st l.length).length ≤ 3 ∧ ((lenL l.sum st l.length).length = 3 → (lenL l.sum st l.length).getD 2 0 = (lenL l.sum st l.length).getD 0 0 + (lenL l.sum st l.length).getD 1 0) := by
  obtain ⟨h1, h2, h3, h4⟩ := stepsL_mem.mp h
  have hw : 0 < l.sum := by omega
  have hm : 0 < l.length := List.length_pos_iff.mpr hl
  obtain ⟨_, a, b⟩ := len_le3 hw h3 hm
  refine ⟨srtI_eq (lenL_sorted _ _ _) fun x => ?_, a, b⟩
  rw [iL_mem, iL_mem]
  constructor
  · rintro ⟨n, hn, e⟩; exact ⟨n, (lenL_mem hw h3).mpr (by rw [h4]; exact hn), e⟩
  · rintro ⟨n, hn, e⟩; exact ⟨n, by have := (lenL_mem hw h3).mp hn; rw [h4] at this; exact this, e⟩
end Rg
namespace Py
open PySem PySem.Spec PyProof.Rows L2 Rg
def T_steps_for : FSpec := pure1 fun ds d => ∃ l : List Nat, l ≠ [] ∧ l.sum ≤ 1000 ∧ ds = [.tuple (l.map nD)] ∧ d = .tuple ((stepsL l).map nD)
def T_step_forO : FSpec := pure1 fun ds d => ∃ (l : List Nat) (k : Nat) (r : List Nat), l ≠ [] ∧ l.sum ≤ 1000 ∧ stepsL l = k :: r ∧ ds = [.tuple (l.map nD)] ∧ d = nD k
def T_turned : FSpec := pure1 fun ds d => ∃ (l : List Nat) (k : Nat), k ≤ l.length ∧ l.length ≤ 1000 ∧ ds = [.tuple (l.map nD), .int k] ∧ d = .tuple ((rotL l k).map nD)
def T_any_turn : FSpec := pure1 fun ds d => ∃ l : List Nat, l ≠ [] ∧ l.sum ≤ 1000 ∧ l.length ≤ 1000 ∧ ds = [.tuple (l.map nD)] ∧ d = oD (anyT l)
theorem atI_I {D : List Int} {i : Nat} (h : i < D.length) : atI (D.map PyData.int) (i : Int) = some (PyData.int (D.getD i 0)) := by
  refine atI_nat ?_
  rw [List.getElem?_map, List.getElem?_eq_getElem h, List.getD_eq_getElem?_getD, List.getElem?_eq_getElem h]
  rfl
theorem ixN_nat {n k : Nat} (h : k < n) : ixN n (k : Int) = some k := by
  unfold ixN
  simp
  omega
theorem ixN_prv {m k : Nat} (hk : k < m) : ixN m ((k : Int) - 1) = some (prv m k) := by
  unfold prv
  split
  · rename_i h
    subst h
    unfold ixN
    simp
    omega
  · have : ((k : Int) - 1) = ((k - 1 : Nat) : Int) := by omega
    rw [this]
    exact ixN_nat (by omega)
theorem atI_prv {l : List Nat} {k : Nat} (hk : k < l.length) : atI (l.map nD) ((k : Int) - 1) = some (nD (l.getD (prv l.length k) 0)) := by
  unfold atI
  rw [List.length_map, ixN_prv hk]
  have hp : prv l.length k < l.length := by unfold prv; split <;> omega
  show (l.map nD)[prv l.length k]? = _
  rw [List.getElem?_map, List.getElem?_eq_getElem hp, List.getD_eq_getElem?_getD, List.getElem?_eq_getElem hp]
  rfl
end Py
namespace Py
open PySem PySem.Spec PyProof.Rows L2
/-! ### a def by another name; methods; instances -/
def HasA (K : PySem.W.Frag) (mg : Str → Option Value) (x nm : Str) (st : Stmt) : Prop := ∃ f fd, FunD K nm nm (defArgs st) (defBody st) (defScope st) [] [] f fd ∧ mg x = some (.ref f)
def HasM (K : PySem.W.Frag) (C : Addr) (m qual : Str) (st : Stmt) : Prop := ∃ f fd, FunD K m qual (defArgs st) (defBody st) (defScope st) [] [] f fd ∧ Meth K C m f
def HasI (K : PySem.W.Frag) (C : Addr) (qual : Str) (st : Stmt) : Prop := ∃ f fd, FunD K "__init__" qual (defArgs st) (defBody st) (defScope st) [] [] f fd ∧ Mk K C f
def Mt (P : Program) (w : World) (K : PySem.W.Frag) (mg : Str → Option Value) (base : Heap) (C : Addr) (m : Str) (k : Nat) (T : FSpec) : Prop := ∃ f fd ps, FnOk P w K mg base CX0 k f fd ps (spOf K T) ∧ Meth K C m f ∧ Binds K fd ps []
def MkI (P : Program) (w : World) (K : PySem.W.Frag) (mg : Str → Option Value) (base : Heap) (C : Addr) (k : Nat) (T : FSpec) : Prop := ∃ f fd ps, FnOk P w K mg base CX0 k f fd ps (spOf K T) ∧ Mk K C f ∧ Binds K fd ps []
section
variable {P : Program} {w : World} {K : PySem.W.Frag} {mg : Str → Option Value} {base : Heap} {x nm qual : Str} {st : Stmt} {N ps : List Str} {k : Nat} {T : FSpec}
theorem fn_atQ {f : Addr} {fd : FuncData} (F : FunD K nm qual (defArgs st) (defBody st) (defScope st) [] [] f fd) (S : FnScope N ps (defScope st))
    (len : ∀ rs O Φ, T rs O Φ → rs.length = ps.length)
    (hbody : ∀ (cdv : Value) (A : Around) (outer : List Env) (s : Shared) (H : Hp) (E : XK) (rs : List SV) (O : Own) (Φ : SV → Own → Prop), Room k (cxOf CX0 P w K mg base N qual (defScope st) f cdv A outer s H E).nox.A → T rs O Φ →
      SB (cxOf CX0 P w K mg base N qual (defScope st) f cdv A outer s H E).nox (defBody st) (startE N rs) O ⟨fun _ O' => Φ vN O', Φ, fun _ _ => False, fun _ _ => False⟩) : FnOk P w K mg base CX0 (k + 1) f fd ps (spOf K T) := by
  refine F.ok S (fun vs H Q E h => ?_) (fun cdv A outer s H vs Q E hr h => ?_)
  · obtain ⟨O, rs, Φ, ok, h1, h2, _⟩ := h
    rw [h1.len]
    exact len rs O Φ h2
  · obtain ⟨O, rs, Φ, ok, h1, h2, h3⟩ := h
    refine ⟨_, PSs.nox WSs.pss, ?_⟩
    refine hbody cdv A outer s H E rs O Φ hr h2 (L2.start N vs) H (rep_start ok h1) _ ⟨?_, ?_, ?_, ?_⟩
    · intro σ' H' E' O' z s R'
      exact h3 .non H' vN O' z s .non
    · intro v H' r O' z s z2
      exact h3 v H' r O' z s z2
    · intro _ _ _ _ z
      exact z.elim
    · intro _ _ _ _ z
      exact z.elim
abbrev BindsB (nm qual : Str) (ps : List Str) (st : Stmt) : Prop := ∀ (kV doc pm : Value) (an : Option Addr) (cdv ct : Value) (us : List Value), us.length = ps.length → bindArgs (PySem.W.fnOf nm qual (defArgs st) (defBody st) (defScope st) .none kV doc pm an cdv ct) ⟨us, []⟩ = pure (ps.zip us)
abbrev BodyB (P : Program) (w : World) (K : PySem.W.Frag) (mg : Str → Option Value) (base : Heap) (N : List Str) (qual : Str) (st : Stmt) (k : Nat) (T : FSpec) : Prop := ∀ (f : Addr) (cdv : Value) (A : Around) (outer : List Env) (s : Shared) (H : Hp) (E : XK) (rs : List SV) (O : Own) (Φ : SV → Own → Prop), Room k (cxOf CX0 P w K mg base N qual (defScope st) f cdv A outer s H E).nox.A → T rs O Φ →
      SB (cxOf CX0 P w K mg base N qual (defScope st) f cdv A outer s H E).nox (defBody st) (startE N rs) O ⟨fun _ O' => Φ vN O', Φ, fun _ _ => False, fun _ _ => False⟩
theorem fn_mkA (F : HasA K mg x nm st) (S : FnScope N ps (defScope st)) (hb : BindsB nm nm ps st) (len : ∀ rs O Φ, T rs O Φ → rs.length = ps.length) (hbody : BodyB P w K mg base N nm st k T) : Fn P w K mg base x (k + 1) T := by
  obtain ⟨f, fd, F, hm⟩ := F
  exact ⟨f, fd, ps, fn_atQ F S len (hbody f), hm, F.kp, F.bindsN hb⟩
theorem fn_mkM {C : Addr} {m : Str} (F : HasM K C m qual st) (S : FnScope N ps (defScope st)) (hb : BindsB m qual ps st) (len : ∀ rs O Φ, T rs O Φ → rs.length = ps.length) (hbody : BodyB P w K mg base N qual st k T) : Mt P w K mg base C m (k + 1) T := by
  obtain ⟨f, fd, F, hm⟩ := F
  exact ⟨f, fd, ps, fn_atQ F S len (hbody f), hm, F.bindsN hb⟩
theorem fn_mkI {C : Addr} (F : HasI K C qual st) (S : FnScope N ps (defScope st)) (hb : BindsB "__init__" qual ps st) (len : ∀ rs O Φ, T rs O Φ → rs.length = ps.length) (hbody : BodyB P w K mg base N qual st k T) : MkI P w K mg base C (k + 1) T := by
  obtain ⟨f, fd, F, hm⟩ := F
  exact ⟨f, fd, ps, fn_atQ F S len (hbody f), hm, F.bindsN hb⟩
end
section
variable {X : Cx} {a b c o e : Expr} {es : List Expr} {E : En} {O : Own} {pos p pos' p' apos : Pos} {C : Addr}
theorem g_meth0 {q dx : Addr} {fs : List (Str × V)} {m : Str} {k : Nat} {T : FSpec} {Φ : SV → Own → Prop} {pl : Sem Bool} (M : Mt X.prog X.w X.K X.mg X.base C m k T) (cl : Cls X.K C) (hr : Room k X.A) (ho : EX X o E O (.v (.ref q))) (hO : (q, .ins C dx fs) ∈ O) (hl : fs.lookup m = none) (hT : T [.v (.ref q)] O Φ)
    (ht : eval (.Call (.Attribute o m apos) [] [] pos) X.env = (do
      let ov ← eval o X.env
      standAt apos.atName
      let (f, first) ← holding [ov] (getMethod ov m pl)
      callWith pos f first (backTo pos (starEach [] X.env)) (backToKw pos (keywordEach [] X.env))) := by rfl) : EG X (.Call (.Attribute o m apos) [] [] pos) E O Φ := fun σ H R Q k' => by
  obtain ⟨f, fd, ps, F, hm, hb⟩ := M
  refine we_of (pe_meth0 WE.pe cl hm F hr hb .nil pass0 ht) ?_
  refine ho σ H R _ fun v H1 r1 O1 ⟨e1, e2⟩ s1 z1 => ?_
  subst e1; subst e2
  obtain rfl : v = .ref q := z1
  obtain ⟨h1, _⟩ := s1.ok.is _ hO
  exact ⟨q, dx, fs, rfl, h1, hl, _, [.v (.ref q)], Φ, s1.ok, .cons rfl .nil, hT, fun v H' r O' f s z => k' v H' r O' f (s1.trans s) z⟩
theorem g_meth {q dx : Addr} {fs : List (Str × V)} {m : Str} {k : Nat} {T : FSpec} {rs : List SV} {Φ : SV → Own → Prop} {pl : Sem Bool} (M : Mt X.prog X.w X.K X.mg X.base C m k T) (cl : Cls X.K C) (hr : Room k X.A) (ho : EX X o E O (.v (.ref q))) (hO : (q, .ins C dx fs) ∈ O) (hl : fs.lookup m = none) (ha : EA X (e :: es) E O rs) (hT : T (.v (.ref q) :: rs) O Φ)
    (hst : starEach (e :: es) X.env = (false, eval e X.env) :: starEach es X.env := by rfl) (hpl : (backTo pos (starEach es X.env)).any (·.1) = false := by rfl)
    (ht : eval (.Call (.Attribute o m apos) (e :: es) [] pos) X.env = (do
      let ov ← eval o X.env
      standAt apos.atName
      let (f, first) ← holding [ov] (getMethod ov m pl)
      callWith pos f first (backTo pos (starEach (e :: es) X.env)) (backToKw pos (keywordEach [] X.env))) := by rfl) : EG X (.Call (.Attribute o m apos) (e :: es) [] pos) E O Φ := fun σ H R Q k' => by
  obtain ⟨f, fd, ps, F, hm, hb⟩ := M
  refine we_of (pe_meth WE.pe cl hm F hr hb .nil pass0 WA.pa hst hpl ht) ?_
  refine ho σ H R _ fun v H1 r1 O1 ⟨e1, e2⟩ s1 z1 => ?_
  subst e1; subst e2
  obtain rfl : v = .ref q := z1
  obtain ⟨h1, _⟩ := s1.ok.is _ hO
  refine ⟨q, dx, fs, rfl, h1, hl, ?_⟩
  refine ha σ H1 (R.step s1) _ fun vs H2 rs2 O2 ⟨e1, e2⟩ s2 z2 => ?_
  subst e1; subst e2
  exact ⟨_, .v (.ref q) :: rs2, Φ, s2.ok, by rw [List.append_nil]; exact .cons rfl z2, hT, fun v H' r O' f s z => k' v H' r O' f ((s1.trans s2).trans s) z⟩
theorem x_fld {q dx : Addr} {fs : List (Str × V)} {f : Str} {i : Int} (cl : Cls X.K C) (na : NoAttr X.K C f) (ho : EX X o E O (.v (.ref q))) (hO : (q, .ins C dx fs) ∈ O) (hl : fs.lookup f = some (.int i)) (hb : attributeBase o f X.env (eval o X.env) = eval o X.env := by rfl) : EX X (.Attribute o f pos) E O (vI i) := fun σ H R Q k => we_of (pe_fld WE.pe hb) (by
  refine ho σ H R _ fun v H1 r1 O1 ⟨e1, e2⟩ s1 z1 => ?_
  subst e1; subst e2
  obtain rfl : v = .ref q := z1
  obtain ⟨h1, _⟩ := s1.ok.is _ hO
  exact ⟨q, C, dx, fs, _, rfl, h1, cl, na, hl, k _ H1 _ _ ⟨rfl, rfl⟩ s1 (.int i)⟩)
theorem s_fld {D : PD} {q dx : Addr} {fs : List (Str × V)} {f : Str} {i : Int} (cl : Cls X.K C) (na : NoAttr X.K C f) (ho : EX X o E O (.v (.ref q))) (hv : EX X e E O (vI i)) (hO : (q, .ins C dx fs) ∈ O) (hl : fs.length < 1000) (h : D.nx E (setO O q (.ins C dx (putF f (.int i) fs))))
    (hs : swapsWith e (some (.Attribute o f p)) pos.line X.env = pure false := by rfl) : SG X (.Assign [.Attribute o f p] e pos) E O D := fun σ H R D' rf => ws_of (ps_fld WE.pe WE.pe hs) (by
  refine hv σ H R _ fun u H1 r1 O1 ⟨e1, e2⟩ s1 z1 => ?_
  subst e1; subst e2
  obtain rfl := int_of z1
  refine ho σ H1 (R.step s1) _ fun v H2 r2 O2 ⟨e1, e2⟩ s2 z2 => ?_
  subst e1; subst e2
  obtain rfl : v = .ref q := z2
  obtain ⟨h1, h2⟩ := s2.ok.is _ hO
  refine ⟨q, C, dx, fs, rfl, h1, cl, na, hl, ?_⟩
  have ndq : dx ≠ q := fun z => by rw [z, h1] at h2; cases h2
  have s3 := Stp.put (o := .ins C dx (putF f (.int i) fs)) (ho := .ins C dx (putF f (.int i) fs)) s2.ok (List.mem_map_of_mem hO) (fun x e => by rw [h1] at e; cases e) ⟨upd_same, by rw [upd_ne ndq]; exact h2⟩
  have s13 := (s1.trans s2).trans s3
  exact rf.nx σ _ E _ h s13 (R.step s13))
/-- a new instance -/
theorem g_make {x : Str} {k : Nat} {T : FSpec} {rs : List SV} {Ψ : Addr → Addr → Own → Prop} (M : MkI X.prog X.w X.K X.mg X.base C k T) (hr : Room (k + 1) X.A) (hm : X.mg x = some (.ref C)) (ha : EA X (e :: es) E O rs)
    (hT : ∀ q dx, q ∉ O.map (·.1) → T (.v (.ref q) :: rs) ((q, .ins C dx []) :: O) fun r O' => r = vN ∧ Ψ q dx O') (hg : Gl X x := by rfl) (hdb : (x == ("__debug__" : Str)) = false := by decide) (hst : starEach (e :: es) X.env = (false, eval e X.env) :: starEach es X.env := by rfl) (hpl : (backTo pos (starEach es X.env)).any (·.1) = false := by rfl) :
    EG X (.Call (.Name x p) (e :: es) [] pos) E O fun r O' => ∃ q dx, r = .v (.ref q) ∧ q ∉ O.map (·.1) ∧ Ψ q dx O' := fun σ H R Q k' => by
  obtain ⟨f, fd, ps, F, hM, hb⟩ := M
  refine we_of (pe_make hM F hr hg hm hb .nil pass0 WA.pa hdb hst hpl) ?_
  refine ha σ H R _ fun vs H1 rs1 O1 ⟨e1, e2⟩ s1 z1 => ?_
  subst e1; subst e2
  intro q dx hq hdx hne
  have s2 := Stp.laid (o := .own q) s1.ok hdx
  have hq2 : upd H1 dx (.own q) q = none := by rw [upd_ne (Ne.symm hne)]; exact hq
  have s3 := Stp.own (o := .ins C dx []) (ho := .ins C dx []) (p := q) s2.ok hq2 ⟨upd_same, by rw [upd_ne hne]; exact upd_same⟩
  have s13 := (s1.trans s2).trans s3
  have hqn := s1.ok.fresh hq
  refine ⟨_, .v (.ref q) :: rs1, _, s3.ok, by rw [List.append_nil]; exact .cons rfl (z1.sub (s2.trans s3).vis), hT q dx hqn, fun v H' r O' ⟨f1, f2⟩ s z => ?_⟩
  subst f1
  exact ⟨non_of z, k' _ H' (.v (.ref q)) O' ⟨q, dx, rfl, hqn, f2⟩ (s13.trans s) rfl⟩
/-! tests that change things of one's own -/
theorem tcG {op : CmpOp} {Φ : SV → Own → Prop} {Ψ : Bool → Own → Prop} (h : CG X op a b E O Φ) (k : ∀ r O', Φ r O' → ∃ bb, r = vB bb ∧ Ψ bb O') (h1 : behindInMarks op b = false := by first | exact nobehind _ (by decide) (by decide) | rfl) : TQ X (.Compare a [op] [b] pos) E O Ψ := fun σ H R Q q => wt_of (pt_cmp WC.pc h1) (by
  refine h σ H R _ fun v H' r O' f s z => ?_
  obtain ⟨bb, rfl, hb⟩ := k r O' f
  exact ⟨bb, bl_of z, q bb H' _ hb s⟩)
theorem t_wG {Φ : Bool → Own → Prop} (h : WQ X e E O Φ) : TQ X e E O Φ := fun σ H R Q q => wt_of WW.pw.pt (h σ H R Q q)
theorem w_or1G {Φ : Bool → Own → Prop} (h : TQ X a E O Φ) : WQ X (.BoolOp .Or [a] pos) E O Φ := fun σ H R Q q => ww_of (pw_or1 WT.pt) (h σ H R Q q)
theorem w_orF {Φ : Bool → Own → Prop} (h : ET X a E O false) (h' : WQ X (.BoolOp .Or (b :: es) pos) E O Φ) : WQ X (.BoolOp .Or (a :: b :: es) pos) E O Φ := fun σ H R Q q => ww_of (pw_or WT.pt WW.pw) (by
  refine h σ H R _ fun k1 H1 O1 ⟨e1, e2⟩ s1 => ?_
  subst e1; subst e2
  rw [if_neg Bool.false_ne_true]
  exact h' σ H1 (R.step s1) Q fun k2 H2 O2 f s2 => q _ H2 _ f (s1.trans s2))
/-- a first test that changes things, then more -/
theorem w_orG {O1 : Own} {Φ : Bool → Own → Prop} (h : TQ X a E O (isB false O1)) (h' : WQ X (.BoolOp .Or (b :: es) pos) E O1 Φ) : WQ X (.BoolOp .Or (a :: b :: es) pos) E O Φ := fun σ H R Q q => ww_of (pw_or WT.pt WW.pw) (by
  refine h σ H R _ fun k1 H1 O2 ⟨e1, e2⟩ s1 => ?_
  subst e1; subst e2
  rw [if_neg Bool.false_ne_true]
  exact h' σ H1 (R.step s1) Q fun k2 H2 O3 f s2 => q _ H2 _ f (s1.trans s2))
/-- e is not None, where e changes things -/
theorem cg_notN {d : PyData} {O1 : Own} {j : Nat} {pos' : Pos} (h : EG X a E O (is1 (.d d) O1)) : CG X .IsNot a (.Constant .none j pos') E O (is1 (vB (!isNon d)) O1) := fun σ H R Q q => wc_of (pc_notN WE.pe) (by
  refine h σ H R _ fun v H1 r O2 ⟨e1, e2⟩ s1 z => ?_
  subst e1; subst e2
  exact q _ H1 _ _ ⟨rfl, rfl⟩ s1 (by rw [dp_non z]; exact .bl _))
theorem cg_neD {d d' : PyData} {O1 : Own} (ha : EG X a E O (is1 (.d d) O1)) (hb : EX X b E O1 (.d d')) (h1 : SeqAt.shaped d = true) (h2 : SeqAt.shaped d' = true) (hu : X.A.units + 64 < cLine := by assumption) : CG X .NotEq a b E O (is1 (vB (!PyData.eqv d d')) O1) :=
  gc_op (op_neD hu) ha fun _ _ ⟨e1, e2⟩ => by
    subst e1; subst e2
    exact hb.mono fun _ _ ⟨e1, e2⟩ => by
      subst e1; subst e2
      exact fun x y H ok hx hy Q q => ⟨d, d', dq_dp _ _ (dp_sub (vis_sub _ _) _ _ hx), dq_dp _ _ (dp_sub (vis_sub _ _) _ _ hy), h1, h2, q _ H _ _ ⟨rfl, rfl⟩ (.refl ok) (.bl _)⟩
theorem cg_neF {d : PyData} {O1 : Own} (ha : EG X a E O (is1 (.d d) O1)) (hb : EX X b E O1 (.d d)) (h : sh 8 d) (hu : X.A.units + 64 < cLine := by assumption) : CG X .NotEq a b E O (is1 (vB false) O1) := by
  have := cg_neD ha hb (shaped_of h (by decide)) (shaped_of h (by decide)) hu
  rw [eqv_rfl h] at this
  exact this
/-- an if whose test changes things and fails -/
theorem sb_skipG {D : PD} {O1 : Own} {as rest : List Stmt} (hc : TQ X c E O (isB false O1)) (h : SB X rest E O1 D) : SB X (.If c as [] pos :: rest) E O D := sb_cons (s_ifG hc fun k O' ⟨e1, e2⟩ => by
  subst e1; subst e2
  exact ⟨(fun z => nomatch z), fun _ => sb_nil h⟩)
theorem tcB {op : CmpOp} {k : Bool} {O1 : Own} (h : CG X op a b E O (is1 (vB k) O1)) (h1 : behindInMarks op b = false := by first | exact nobehind _ (by decide) (by decide) | rfl) : TQ X (.Compare a [op] [b] pos) E O (isB k O1) := tcG h (fun r O' ⟨e1, e2⟩ => ⟨k, e1, rfl, e2⟩) h1
theorem TQ.cast {k k' : Bool} {O1 : Own} (h : TQ X e E O (isB k O1)) (q : k = k') : TQ X e E O (isB k' O1) := by
  subst q
  exact h
/-- xs.append(e), where e changes things -/
theorem s_appendG {D : PD} {q : Addr} {ds : List PyData} {d : PyData} {O1 : Own} (ha : EX X a E O (.v (.ref q))) (hO0 : ∃ ds0, (q, .lst ds0) ∈ O) (hb : EG X b E O (is1 (.d d) O1)) (hO : (q, .lst ds) ∈ O1) (hl : ds.length < 100000) (h : D.nx E (setO O1 q (.lst (ds ++ [d]))))
    (hbase : attributeBase a "append" X.env (eval a X.env) = eval a X.env := by rfl)
    (hfew : ((backTo pos (starEach [b] X.env)).all (fun x => !x.1) && (backToKw pos (keywordEach [] X.env)).all (fun x => x.1.isSome)
      && decide (([b] : List Expr).length + ([] : List Keyword).length + (if ([] : List Keyword).isEmpty then 0 else 1) < 30)) = true := by rfl)
    (hline : (p.endLine == pos.line) = true := by rfl) (hplain : (backTo pos (starEach [] X.env)).any (·.1) = false := by rfl) (hs : starEach [b] X.env = (false, eval b X.env) :: starEach [] X.env := by rfl)
    (hw : swapsWith (.Call (.Attribute a "append" p) [b] [] pos) none pos'.line X.env = pure false := by rfl) :
    SG X (.Expr (.Call (.Attribute a "append" p) [b] [] pos) pos') E O D := s_exprG (Φ := fun r O' => r = vN ∧ O' = setO O1 q (.lst (ds ++ [d]))) (fun σ H R Q k => we_of (pe_bm PySem.F.plainAttrs_list PySem.F.slot_list_append PySem.F.type_list_append mt_append WE.pe (pa_cons WE.pe pa_nil hs) hbase hfew hline hs hplain) (by
  obtain ⟨ds0, hO0⟩ := hO0
  refine ha σ H R _ fun v H1 r1 O1' ⟨e1, e2⟩ s1 z1 => ?_
  subst e1; subst e2
  obtain rfl : v = .ref q := z1
  obtain ⟨vs, h1, h2⟩ := s1.ok.is _ hO0
  refine ⟨.inl ⟨rfl, _, SqL.of h1⟩, ?_⟩
  refine hb σ H1 (R.step s1) _ fun u H2 r O2 ⟨e1, e2⟩ s2 z2 => ?_
  subst e1; subst e2
  obtain ⟨vs2, h3, h4⟩ := s2.ok.is _ hO
  refine ⟨q, vs2, _, rfl, rfl, h3, ?_, ?_⟩
  · rw [dpa_len h4]
    exact Nat.lt_of_lt_of_le hl (by decide)
  · have s3 := Stp.put (o := .lst (ds ++ [d])) (ho := .lst (vs2 ++ [_])) s2.ok (List.mem_map_of_mem hO) (fun x e => by rw [h3] at e; cases e) ⟨_, upd_same, dpa_app h4 (.cons z2 .nil)⟩
    exact k _ _ _ _ ⟨rfl, rfl⟩ ((s1.trans s2).trans s3) .non)) (fun r O' ⟨e1, e2⟩ => by subst e2; exact h) hw
end
end Py
namespace Py
theorem setO_mem {O : Own} {q : PySem.Addr} {o o' : OO} (h : (q, o) ∈ O) : (q, o') ∈ setO O q o' := by
  unfold setO
  exact List.mem_map.mpr ⟨(q, o), h, if_pos rfl⟩
theorem setO_setO (O : Own) (q : PySem.Addr) (o o' : OO) : setO (setO O q o) q o' = setO O q o' := by
  unfold setO
  rw [List.map_map]
  apply List.map_congr_left
  intro p _
  show (if (if p.1 = q then (q, o) else p).1 = q then (q, o') else (if p.1 = q then (q, o) else p)) = _
  by_cases e : p.1 = q
  · simp [e]
  · simp [e]
end Py
namespace Py
open PySem PySem.Spec PyProof.Rows L2 Rg
structure LayC (K : PySem.W.Frag) (mg : Str → Option Value) (C : Addr) : Prop where
  cl : Cls K C
  nW : NoAttr K C "whole"
  nS : NoAttr K C "step"
  nL : NoAttr K C "laid"
  mgC : mg "Layer" = some (.ref C)
def lf (w s m : Nat) : List (Str × V) := [("whole", .int w), ("step", .int s), ("laid", .int m)]
theorem lf_w (w s m : Nat) : (lf w s m).lookup ("whole" : Str) = some (V.int (w : Int)) := rfl
theorem lf_s (w s m : Nat) : (lf w s m).lookup ("step" : Str) = some (V.int (s : Int)) := rfl
theorem lf_l (w s m : Nat) : (lf w s m).lookup ("laid" : Str) = some (V.int (m : Int)) := rfl
theorem lf_put (w s m n : Nat) : putF "laid" (.int (n : Int)) (lf w s m) = lf w s n := by
  unfold lf
  show (if ("whole" : Str) = "laid" then _ else _ :: (if ("step" : Str) = "laid" then _ else _ :: (if ("laid" : Str) = "laid" then _ else _))) = _
  rw [if_neg (by decide), if_neg (by decide), if_pos rfl]
theorem lf_new (w s : Nat) : putF "laid" (.int ((1 : Nat) : Int)) (putF "step" (.int (s : Int)) (putF "whole" (.int (w : Int)) [])) = lf w s 1 := by
  unfold lf
  have e1 : putF "step" (V.int (s : Int)) (putF "whole" (V.int (w : Int)) []) = [(("whole" : Str), V.int w), ("step", V.int s)] := by
    show (if ("whole" : Str) = "step" then _ else _) = _
    rw [if_neg (by decide)]
    rfl
  rw [e1]
  show (if ("whole" : Str) = "laid" then _ else _ :: (if ("step" : Str) = "laid" then _ else _)) = _
  rw [if_neg (by decide), if_neg (by decide)]
  rfl
/-- an instance of one's own -/
def LayAt (C q : Addr) (O : Own) (w s m : Nat) : Prop := ∃ dx, (q, .ins C dx (lf w s m)) ∈ O
def T_L_init (C : Addr) : FSpec := fun rs O Φ => ∃ (q dx : Addr) (w s : Nat), rs = [.v (.ref q), vI w, vI s] ∧ (q, .ins C dx []) ∈ O ∧ Φ vN (setO O q (.ins C dx (lf w s 1)))
def T_L_row (C : Addr) : FSpec := fun rs O Φ => ∃ (q dx : Addr) (w s m : Nat), rs = [.v (.ref q)] ∧ (q, .ins C dx (lf w s m)) ∈ O ∧ Φ (.d (rowD w s m)) O
def T_L_many (C : Addr) : FSpec := fun rs O Φ => ∃ (q dx : Addr) (w s m : Nat), rs = [.v (.ref q)] ∧ (q, .ins C dx (lf w s m)) ∈ O ∧ Φ (vI m) O
def T_L_gaps (C : Addr) : FSpec := fun rs O Φ => ∃ (q dx : Addr) (w s m : Nat), Row w s m ∧ rs = [.v (.ref q)] ∧ (q, .ins C dx (lf w s m)) ∈ O ∧ Φ (vT ((gapL w s m).map nD)) O
def T_L_lengths (C : Addr) : FSpec := fun rs O Φ => ∃ (q dx : Addr) (w s m : Nat), Row w s m ∧ rs = [.v (.ref q)] ∧ (q, .ins C dx (lf w s m)) ∈ O ∧ Φ (vT ((lenL w s m).map nD)) O
def T_L_lay (C : Addr) : FSpec := fun rs O Φ => ∃ (q dx : Addr) (w s m : Nat), Row w s m ∧ m < tn w s ∧ rs = [.v (.ref q)] ∧ (q, .ins C dx (lf w s m)) ∈ O ∧ Φ (.d (cutT w s m)) (setO O q (.ins C dx (lf w s (m + 1))))
def T_L_take (C : Addr) : FSpec := fun rs O Φ => ∃ (q dx : Addr) (w s m : Nat), 2 ≤ m ∧ rs = [.v (.ref q)] ∧ (q, .ins C dx (lf w s m)) ∈ O ∧ Φ vN (setO O q (.ins C dx (lf w s (m - 1))))
def T_L_must_have (C : Addr) : FSpec := fun rs O Φ => ∃ (q dx : Addr) (w s m k : Nat), k < m ∧ rs = [.v (.ref q), vI k] ∧ (q, .ins C dx (lf w s m)) ∈ O ∧ Φ vN O
def T_L_gap_of (C : Addr) : FSpec := fun rs O Φ => ∃ (q dx : Addr) (w s m k : Nat), Row w s m ∧ k < m ∧ rs = [.v (.ref q), vI k] ∧ (q, .ins C dx (lf w s m)) ∈ O ∧ Φ (vI (gapN w s m k : Nat)) O
def T_L_next_to (C : Addr) : FSpec := fun rs O Φ => ∃ (q dx : Addr) (w s m k : Nat), Row w s m ∧ k < m ∧ rs = [.v (.ref q), vI k] ∧ (q, .ins C dx (lf w s m)) ∈ O ∧ Φ (.d (nD (nx w s m k))) O
theorem atI_lastApp (ds : List PyData) (d : PyData) : atI (ds ++ [d]) (-1) = some d := by
  unfold atI ixN
  rw [if_neg (by decide), if_pos (by simp; omega)]
  show (ds ++ [d])[_]? = _
  rw [show ((-1 : Int) + ((ds ++ [d]).length : Nat)).toNat = ds.length by simp; omega]
  simp
def cutsL (w s i : Nat) : List PyData := (List.range i).map fun j => cutT w s (1 + j)
theorem cutsL_succ (w s i : Nat) : cutsL w s (i + 1) = cutsL w s i ++ [cutT w s (1 + i)] := by
  unfold cutsL
  rw [List.range_succ, List.map_append]
  rfl
theorem cutsL_len (w s i : Nat) : (cutsL w s i).length = i := by unfold cutsL; simp
theorem cutsL_at {w s n i : Nat} (h : i < n) : atI (cutsL w s n) (i : Int) = some (cutT w s (1 + i)) := by
  refine atI_nat ?_
  unfold cutsL
  rw [List.getElem?_map, List.getElem?_range h]
  rfl
theorem sh_rowD (n : Nat) (w s m : Nat) : sh (n + 1) (rowD w s m) := sh_tup fun x hx => by
  simp only [List.mem_cons, List.not_mem_nil, or_false] at hx
  rcases hx with rfl | rfl | rfl <;> exact sh_int _ _
/-- a whole turn has gaps of one length alone -/
theorem turn_one {w s : Nat} (h0 : 1 ≤ s) (h1 : s < w) : (lenL w s (tn w s)).length = 1 := by
  have hw : 0 < w := by omega
  have h2 := tn_two h0 h1
  obtain ⟨R, e1, e2⟩ := rl_ok hw (Nat.le_refl (tn w s)) h2
  have ha := turn_alike (s := s) hw
  rw [e1, e2] at ha
  rw [lenL_three R]
  have hsum : tn w s = (rgt w s (tn w s)).1 + (lft w s (tn w s)).1 := by
    have hpa := R.lt (rgt w s (tn w s)).1
    have hpb := R.lt (lft w s (tn w s)).1
    have hz : pl w s ((rgt w s (tn w s)).1 + (lft w s (tn w s)).1) = 0 := by
      rcases pl_add (s := s) hw (rgt w s (tn w s)).1 (lft w s (tn w s)).1 with z | z
      · have := pl_lt (s := s) (k := (rgt w s (tn w s)).1 + (lft w s (tn w s)).1) hw
        omega
      · omega
    have hd := (mul_mod_zero hw).mp hz
    have := R.am
    have := R.bm
    have := R.a0
    have hle := Nat.le_of_dvd (by omega) hd
    obtain ⟨c, hc⟩ := hd
    rcases Nat.lt_or_ge c 2 with z | z
    · have : c = 1 ∨ c = 0 := by omega
      rcases this with rfl | rfl
      · rw [Nat.mul_one] at hc; omega
      · rw [Nat.mul_zero] at hc; omega
    · have : tn w s * 2 ≤ tn w s * c := Nat.mul_le_mul_left _ z
      omega
  unfold len3
  rw [decide_eq_false (by omega), if_neg (by omega), if_neg (by omega)]
  rfl
theorem gap_sum_num {w s m : Nat} (hw : 0 < w) (hm : m ≤ tn w s) (h0 : 0 < m) : ((List.range m).map (gapN w s m)).sum = w := by
  have e := gapL_sum hw hm h0
  unfold gapL at e
  exact ((((ordL_perm hw hm).map (gapN w s m)).symm).sum_nat).trans e
end Py
namespace Py
open PySem PySem.Spec PyProof.Rows L2 Rg
section
variable {X : Cx} {a b c o e : Expr} {es : List Expr} {E : En} {O : Own} {pos p pos' p' : Pos}
theorem x_globI {x : Str} {i : Int} (hm : ∃ t, X.mg x = some (.int i t)) (hg : Gl X x := by rfl) (hd : (x == ("__debug__" : Str)) = false := by decide) : EX X (.Name x pos) E O (vI i) := by
  obtain ⟨t, hm⟩ := hm
  exact x_glob (v := .int i) hg hm ⟨t, rfl⟩ (fun _ => .int i) hd
theorem x_strI {i : Int} (hm : X.mg "str" = none) (ha : EX X a E O (vI i)) (hb : i.natAbs.log2 < 1920) (hg : Gl X "str" := by rfl) (hs : starEach [a] X.env = (false, eval a X.env) :: starEach [] X.env := by rfl) (hpl : (backTo pos (starEach [] X.env)).any (·.1) = false := by rfl) : EX X (.Call (.Name "str" p) [a] [] pos) E O (vS (toString i)) := g_ct call_str_int hg hm PyProof.Rows.boot_str (a_cons ha a_nil hs) (fun vs H ok hvs Q k => by
    cases hvs with
    | cons z1 z2 =>
      cases z2
      obtain rfl := int_of z1
      exact ⟨i, rfl, hb, k _ H _ _ ⟨rfl, rfl⟩ (.refl ok) (.str _)⟩) (by decide) (by decide) hs hpl
end
/-! rows, of any data -/
def isW : PyData → Int → Int → Bool
  | .int i, lo, hi => decide (lo ≤ i) && decide (i ≤ hi)
  | _, _, _ => false
def intD : PyData → Nat
  | .int i => i.toNat
  | _ => 0
def isRowD : PyData → Bool
  | .tuple ds => ds.length == 3 && (isW (ds.getD 0 .none) 2 120 && (isW (ds.getD 1 .none) 1 ((intD (ds.getD 0 .none) : Int) - 1) && isW (ds.getD 2 .none) 1 (tn (intD (ds.getD 0 .none)) (intD (ds.getD 1 .none)) : Nat)))
  | _ => false
theorem isW_nat {d : PyData} {lo hi : Int} (h : isW d lo hi = true) (hl : 0 ≤ lo) : d = .int (intD d : Nat) ∧ lo ≤ (intD d : Nat) ∧ ((intD d : Nat) : Int) ≤ hi := by
  cases d with
  | int i =>
    have h' : (decide (lo ≤ i) && decide (i ≤ hi)) = true := h
    simp only [Bool.and_eq_true, decide_eq_true_eq] at h'
    have e : ((i.toNat : Nat) : Int) = i := Int.toNat_of_nonneg (by omega)
    show PyData.int i = PyData.int ((i.toNat : Nat) : Int) ∧ lo ≤ ((i.toNat : Nat) : Int) ∧ ((i.toNat : Nat) : Int) ≤ hi
    rw [e]
    exact ⟨rfl, h'⟩
  | _ => cases h
def T_is_whole : FSpec := pure1 fun ds d => ∃ (x : PyData) (lo hi : Int), ds = [x, .int lo, .int hi] ∧ d = .bool (isW x lo hi)
def T__law_whole : FSpec := T_is_whole
def T_is_row : FSpec := pure1 fun ds d => ∃ x : PyData, ds = [x] ∧ d = .bool (isRowD x)
def T__law_is_row : FSpec := T_is_row
def spI (a : Nat) (n : Nat) : PyData := ([.str (toString (a : Int)), .int (0 - (a : Int)), .int ((a : Int) + 1), .int ((a : Int) - 1), .bool (a == 1), .none, .tuple [.int a], .int 0, .int 121, .list [.int a], .int ((a : Int) * 2), .int 1] : List PyData).getD (n / 6 % 12) .none
def spT (ds : List PyData) (n : Nat) : PyData := ([.list ds, .tuple (cutD ds none (some (-1))), .tuple (ds ++ cutD ds (some (-1)) none), .tuple ds.reverse, .tuple [.tuple ds], .none, .tuple (cutD ds (some 1) none)] : List PyData).getD (n / 6 % 7) .none
def spR (l : List Nat) (n k : Nat) : PyData := if 0 < k ∧ 0 < n % 6 then .tuple (cutD (l.map nD) none (some ((n / 6 % 3 : Nat) : Int)) ++ [spI (l.getD (n / 6 % 3) 0) (n / 32)] ++ cutD (l.map nD) (some ((n / 6 % 3 + 1 : Nat) : Int)) none) else spT (l.map nD) n
def T__law_spoiltI : FSpec := pure1 fun ds d => ∃ a n : Nat, a ≤ 1000 ∧ ds = [.int a, .int n, .int ((0 : Nat) : Int)] ∧ d = spI a n
def T__law_spoiltR : FSpec := pure1 fun ds d => ∃ (l : List Nat) (n k : Nat), l.length = 3 ∧ (∀ x ∈ l, x ≤ 1000) ∧ ds = [.tuple (l.map nD), .int n, .int k] ∧ d = spR l n k
theorem atI_getD {ds : List PyData} {i : Nat} (h : i < ds.length) : atI ds (i : Int) = some (ds.getD i .none) := by
  refine atI_nat ?_
  rw [List.getD_eq_getElem?_getD, List.getElem?_eq_getElem h]
  rfl
theorem log_small {i : Int} (h : i.natAbs ≤ 1000) : i.natAbs.log2 < 1920 := by
  rcases Nat.eq_zero_or_pos i.natAbs with z | z
  · rw [z]; decide
  · rw [Nat.log2_lt (by omega)]
    exact Nat.lt_of_le_of_lt h (Nat.lt_of_lt_of_le (by decide : 1000 < 2 ^ 10) (Nat.pow_le_pow_right (by decide) (by decide)))
end Py
namespace Py
open PySem PySem.Spec PyProof.Rows L2
/-! ### judgements of what may raise -/
abbrev XI := Value → Own → Prop
abbrev KontX (K : PySem.W.Frag) (O : Own) (H : Hp) (Ξ : XI) (Ex : XK) : Prop := ∀ cls H' O', Ξ cls O' → Stp K O H O' H' → Ex cls none H'
abbrev TakesE (X : Cx) (Ex : XK) : Prop := Takes X fun cls d _ H => Ex cls d H
def EGX (X : Cx) (e : Expr) (E : En) (O : Own) (Φ : SV → Own → Prop) (Ξ : XI) : Prop := ∀ Ex : XK, TakesE X Ex → ∀ σ H, Rep X.K E O σ H → ∀ Q : VK, Kont X.K O H Φ Q → KontX X.K O H Ξ Ex → Py.WE X e σ H Q
def SGX (X : Cx) (st : Stmt) (E : En) (O : Own) (D : PD) (Ξ : XI) : Prop := ∀ Ex : XK, TakesE X Ex → ∀ σ H, Rep X.K E O σ H → ∀ D', Ref X.K O H D D' → KontX X.K O H Ξ Ex → WS X st D' σ H
def SBX (X : Cx) (sts : List Stmt) (E : En) (O : Own) (D : PD) (Ξ : XI) : Prop := ∀ Ex : XK, TakesE X Ex → ∀ σ H, Rep X.K E O σ H → ∀ D', Ref X.K O H D D' → KontX X.K O H Ξ Ex → WSs X sts D' σ H
/-- the same at the slots of the moment -/
def EGS (X : Cx) (e : Expr) (E : En) (O : Own) (Φ : SV → Own → Prop) (Ξ : XI) : Prop := ∀ W : WX, Takes X W → ∀ σ H, Rep X.K E O σ H → ∀ Q : VK, Kont X.K O H Φ Q → (∀ cls H' O', Ξ cls O' → Stp X.K O H O' H' → W cls none σ H') → Py.WE X e σ H Q
theorem KontX.step {K : PySem.W.Frag} {O O1 : Own} {H H1 : Hp} {Ξ : XI} {Ex : XK} (h : KontX K O H Ξ Ex) (s : Stp K O H O1 H1) : KontX K O1 H1 Ξ Ex := fun cls H' O' x q => h cls H' O' x (s.trans q)
section
variable {X : Cx} {a b c o e : Expr} {es : List Expr} {st : Stmt} {sts as bs : List Stmt} {E : En} {O : Own} {D : PD} {Ξ : XI} {pos p pos' apos : Pos}
theorem egx_of {Φ : SV → Own → Prop} (h : EG X e E O Φ) : EGX X e E O Φ Ξ := fun _ _ σ H R Q q _ => h σ H R Q q
theorem sgx_of (h : SG X st E O D) : SGX X st E O D Ξ := fun _ _ σ H R D' r _ => h σ H R D' r
theorem sbx_of (h : SB X sts E O D) : SBX X sts E O D Ξ := fun _ _ σ H R D' r _ => h σ H R D' r
theorem sbx_cons (h : SGX X st E O { D with nx := fun E' O' => SBX X sts E' O' D Ξ } Ξ) : SBX X (st :: sts) E O D Ξ := fun Ex tk σ H R D' r rx => wss_of (pss_cons WS.ps WSs.pss)
  (h Ex tk σ H R { D' with nx := WSs X sts D' } ⟨fun σ' H' E' O' hb s R' => hb Ex tk σ' H' R' D' (r.step s) (rx.step s), r.rt, r.bk, r.ct⟩ rx)
theorem sbx_nil (h : D.nx E O) : SBX X [] E O D Ξ := sbx_of (sb_nil h)
theorem sx_if {k : Bool} (hc : ET X c E O k) (h1 : k = true → SBX X as E O D Ξ) (h2 : k = false → SBX X bs E O D Ξ) : SGX X (.If c as bs pos) E O D Ξ := fun Ex tk σ H R D' r rx => ws_of (ps_if WT.pt WSs.pss WSs.pss) (by
  refine hc σ H R _ fun k' H1 O1 ⟨e1, e2⟩ s => ?_
  subst e1; subst e2
  cases k' with
  | true =>
    rw [if_pos rfl]
    exact h1 rfl Ex tk σ H1 (R.step s) D' (r.step s) (rx.step s)
  | false =>
    rw [if_neg Bool.false_ne_true]
    exact h2 rfl Ex tk σ H1 (R.step s) D' (r.step s) (rx.step s))
theorem sx_ret {Φ : SV → Own → Prop} (he : EGX X e E O Φ Ξ) (h : ∀ r O', Φ r O' → D.rt r O') : SGX X (.Return (some e) pos) E O D Ξ := fun Ex tk σ H R D' r rx => ws_of (ps_ret WE.pe) (by
  refine he Ex tk σ H R _ (fun v H1 r1 O1 f s z => ?_) rx
  exact r.rt v H1 r1 O1 (h r1 O1 f) s z)
theorem sx_expr {Φ : SV → Own → Prop} (he : EGX X e E O Φ Ξ) (h : ∀ r O', Φ r O' → D.nx E O') (hs : swapsWith e none pos.line X.env = pure false := by rfl) : SGX X (.Expr e pos) E O D Ξ := fun Ex tk σ H R D' r rx => ws_of (ps_expr WE.pe hs) (by
  refine he Ex tk σ H R _ (fun v H1 r1 O1 f s z => ?_) rx
  exact r.nx σ H1 E O1 (h r1 O1 f) s (R.step s))
/-- raise x('m') -/
structure ExK (K : PySem.W.Frag) (mg : Str → Option Value) (x : Str) (C : Addr) : Prop where
  ex : PySem.W.excIn K C [.type "ValueError", .type "Exception", .type "BaseException", .type "object"] "ValueError.__new__" = true
  kp : PySem.W.keepIn K (.ref C) = true
  sub : PySem.W.subIn K (.ref C) (.type "BaseException") = some true
  ty : PySem.W.typeIn K (.ref C) = some (.type "type")
  mg : mg x = some (.ref C)
theorem sx_raise {x m : Str} {j : Nat} {C : Addr} {p2 : Pos} (c : ExK X.K X.mg x C) (h : Ξ (.ref C) O) (hc : X.calm = true := by rfl) (hg : Gl X x := by rfl) (hdb : (x == ("__debug__" : Str)) = false := by decide) : SGX X (.Raise (some (.Call (.Name x p) [.Constant (.str m) j p2] [] pos)) none pos') E O D Ξ := fun Ex tk σ H R D' r rx =>
  ws_of (ps_raise hc tk (pmk_own PySem.F.excBase_ValueError c.ex c.mg c.kp (raises_own c.sub c.ty) hg hdb)) (rx (.ref C) H O h (.refl R.own))
end
/-! ### defs that may raise -/
abbrev FSpecX := List SV → Own → (SV → Own → Prop) → XI → Prop
def spOfX (K : PySem.W.Frag) (T : FSpecX) : Sp := fun vs H Q Ex => ∃ O rs Φ Ξ, OwnOk K O H ∧ SVs K (vis O H) vs rs ∧ T rs O Φ Ξ ∧ Kont K O H Φ Q ∧ KontX K O H Ξ Ex
def FnX (P : Program) (w : World) (K : PySem.W.Frag) (mg : Str → Option Value) (base : Heap) (x : Str) (k : Nat) (T : FSpecX) : Prop := ∃ f fd ps, FnOk P w K mg base (L2.CX P w) k f fd ps (spOfX K T) ∧ mg x = some (.ref f) ∧ PySem.W.keepIn K (.ref f) = true ∧ Binds K fd ps []
def MtX (P : Program) (w : World) (K : PySem.W.Frag) (mg : Str → Option Value) (base : Heap) (C : Addr) (m : Str) (k : Nat) (T : FSpecX) : Prop := ∃ f fd ps, FnOk P w K mg base (L2.CX P w) k f fd ps (spOfX K T) ∧ Meth K C m f ∧ Binds K fd ps []
section
variable {P : Program} {w : World} {K : PySem.W.Frag} {mg : Str → Option Value} {base : Heap} {x nm qual : Str} {st : Stmt} {N ps : List Str} {k : Nat} {T : FSpecX}
abbrev BodyX (P : Program) (w : World) (K : PySem.W.Frag) (mg : Str → Option Value) (base : Heap) (N : List Str) (qual : Str) (st : Stmt) (k : Nat) (T : FSpecX) : Prop := ∀ (f : Addr) (cdv : Value) (A : Around) (outer : List Env) (s : Shared) (H : Hp) (E : XK) (rs : List SV) (O : Own) (Φ : SV → Own → Prop) (Ξ : XI), Room k (cxOf (L2.CX P w) P w K mg base N qual (defScope st) f cdv A outer s H E).A → T rs O Φ Ξ →
      SBX (cxOf (L2.CX P w) P w K mg base N qual (defScope st) f cdv A outer s H E) (defBody st) (startE N rs) O ⟨fun _ O' => Φ vN O', Φ, fun _ _ => False, fun _ _ => False⟩ Ξ
theorem fn_atX {f : Addr} {fd : FuncData} (F : FunD K nm qual (defArgs st) (defBody st) (defScope st) [] [] f fd) (S : FnScope N ps (defScope st)) (len : ∀ rs O Φ Ξ, T rs O Φ Ξ → rs.length = ps.length) (hbody : BodyX P w K mg base N qual st k T) : FnOk P w K mg base (L2.CX P w) (k + 1) f fd ps (spOfX K T) := by
  refine F.ok S (fun vs H Q E h => ?_) (fun cdv A outer s H vs Q E hr h => ?_)
  · obtain ⟨O, rs, Φ, Ξ, ok, h1, h2, _⟩ := h
    rw [h1.len]
    exact len rs O Φ Ξ h2
  · obtain ⟨O, rs, Φ, Ξ, ok, h1, h2, h3, h4⟩ := h
    refine ⟨_, WSs.pss, ?_⟩
    refine hbody f cdv A outer s H E rs O Φ Ξ hr h2 E (takes_of rfl rfl rfl rfl) (L2.start N vs) H (rep_start ok h1) _ ⟨?_, ?_, ?_, ?_⟩ h4
    · intro σ' H' E' O' z s R'
      exact h3 .non H' vN O' z s .non
    · intro v H' r O' z s z2
      exact h3 v H' r O' z s z2
    · intro _ _ _ _ z
      exact z.elim
    · intro _ _ _ _ z
      exact z.elim
theorem fnx_mkA (F : HasA K mg x nm st) (S : FnScope N ps (defScope st)) (hb : BindsB nm nm ps st) (len : ∀ rs O Φ Ξ, T rs O Φ Ξ → rs.length = ps.length) (hbody : BodyX P w K mg base N nm st k T) : FnX P w K mg base x (k + 1) T := by
  obtain ⟨f, fd, F, hm⟩ := F
  exact ⟨f, fd, ps, fn_atX F S len hbody, hm, F.kp, F.bindsN hb⟩
theorem fnx_mk2 (F : Has K mg x st) (S : FnScope N ps (defScope st)) (hb : BindsB x x ps st) (len : ∀ rs O Φ Ξ, T rs O Φ Ξ → rs.length = ps.length) (hbody : BodyX P w K mg base N x st k T) : FnX P w K mg base x (k + 1) T := fnx_mkA F S hb len hbody
theorem fnx_mkM {C : Addr} {m : Str} (F : HasM K C m qual st) (S : FnScope N ps (defScope st)) (hb : BindsB m qual ps st) (len : ∀ rs O Φ Ξ, T rs O Φ Ξ → rs.length = ps.length) (hbody : BodyX P w K mg base N qual st k T) : MtX P w K mg base C m (k + 1) T := by
  obtain ⟨f, fd, F, hm⟩ := F
  exact ⟨f, fd, ps, fn_atX F S len hbody, hm, F.bindsN hb⟩
end
section
variable {X : Cx} {a b c o e : Expr} {es : List Expr} {E : En} {O : Own} {pos p pos' apos : Pos} {C : Addr}
theorem gx_call {x : Str} {k : Nat} {T : FSpecX} {rs : List SV} {Φ : SV → Own → Prop} {Ξ : XI} (F : FnX X.prog X.w X.K X.mg X.base x k T) (hr : Room k X.A) (ha : EA X (e :: es) E O rs) (hT : T rs O Φ Ξ) (hg : Gl X x := by rfl) (hdb : (x == ("__debug__" : Str)) = false := by decide) (he : starEach (e :: es) X.env = (false, eval e X.env) :: starEach es X.env := by rfl) (hpl : (backTo pos (starEach es X.env)).any (·.1) = false := by rfl) :
    EGX X (.Call (.Name x p) (e :: es) [] pos) E O Φ Ξ := fun Ex tk σ H R Q q qx => by
  obtain ⟨f, fd, ps, h1, h2, h3, h4⟩ := F
  refine we_of (pe_call h1 hr hg h2 h3 h4 .nil (passes_call tk fun _ _ _ _ z => z) WA.pa hdb he hpl) ?_
  refine ha σ H R _ fun vs H1 rs1 O1 ⟨e1, e2⟩ s1 z1 => ?_
  subst e1; subst e2
  exact ⟨_, _, Φ, Ξ, s1.ok, by rw [List.append_nil]; exact z1, hT, fun v H' r O' f s z => q v H' r O' f (s1.trans s) z, fun cls H' O' z s => qx cls H' O' z (s1.trans s)⟩
theorem gx_meth0 {q dx : Addr} {fs : List (Str × V)} {m : Str} {k : Nat} {T : FSpecX} {Φ : SV → Own → Prop} {Ξ : XI} {pl : Sem Bool} (M : MtX X.prog X.w X.K X.mg X.base C m k T) (cl : Cls X.K C) (hr : Room k X.A) (ho : EX X o E O (.v (.ref q))) (hO : (q, .ins C dx fs) ∈ O) (hl : fs.lookup m = none) (hT : T [.v (.ref q)] O Φ Ξ)
    (ht : eval (.Call (.Attribute o m apos) [] [] pos) X.env = (do
      let ov ← eval o X.env
      standAt apos.atName
      let (f, first) ← holding [ov] (getMethod ov m pl)
      callWith pos f first (backTo pos (starEach [] X.env)) (backToKw pos (keywordEach [] X.env))) := by rfl) : EGX X (.Call (.Attribute o m apos) [] [] pos) E O Φ Ξ := fun Ex tk σ H R Q k' qx => by
  obtain ⟨f, fd, ps, F, hm, hb⟩ := M
  refine we_of (pe_meth0 WE.pe cl hm F hr hb .nil (passes_call tk fun _ _ _ _ z => z) ht) ?_
  refine ho σ H R _ fun v H1 r1 O1 ⟨e1, e2⟩ s1 z1 => ?_
  subst e1; subst e2
  obtain rfl : v = .ref q := z1
  obtain ⟨h1, _⟩ := s1.ok.is _ hO
  exact ⟨q, dx, fs, rfl, h1, hl, _, [.v (.ref q)], Φ, Ξ, s1.ok, .cons rfl .nil, hT, fun v H' r O' f s z => k' v H' r O' f (s1.trans s) z, fun cls H' O' z s => qx cls H' O' z (s1.trans s)⟩
theorem gx_meth {q dx : Addr} {fs : List (Str × V)} {m : Str} {k : Nat} {T : FSpecX} {rs : List SV} {Φ : SV → Own → Prop} {Ξ : XI} {pl : Sem Bool} (M : MtX X.prog X.w X.K X.mg X.base C m k T) (cl : Cls X.K C) (hr : Room k X.A) (ho : EX X o E O (.v (.ref q))) (hO : (q, .ins C dx fs) ∈ O) (hl : fs.lookup m = none) (ha : EA X (e :: es) E O rs) (hT : T (.v (.ref q) :: rs) O Φ Ξ)
    (hst : starEach (e :: es) X.env = (false, eval e X.env) :: starEach es X.env := by rfl) (hpl : (backTo pos (starEach es X.env)).any (·.1) = false := by rfl)
    (ht : eval (.Call (.Attribute o m apos) (e :: es) [] pos) X.env = (do
      let ov ← eval o X.env
      standAt apos.atName
      let (f, first) ← holding [ov] (getMethod ov m pl)
      callWith pos f first (backTo pos (starEach (e :: es) X.env)) (backToKw pos (keywordEach [] X.env))) := by rfl) : EGX X (.Call (.Attribute o m apos) (e :: es) [] pos) E O Φ Ξ := fun Ex tk σ H R Q k' qx => by
  obtain ⟨f, fd, ps, F, hm, hb⟩ := M
  refine we_of (pe_meth WE.pe cl hm F hr hb .nil (passes_call tk fun _ _ _ _ z => z) WA.pa hst hpl ht) ?_
  refine ho σ H R _ fun v H1 r1 O1 ⟨e1, e2⟩ s1 z1 => ?_
  subst e1; subst e2
  obtain rfl : v = .ref q := z1
  obtain ⟨h1, _⟩ := s1.ok.is _ hO
  refine ⟨q, dx, fs, rfl, h1, hl, ?_⟩
  refine ha σ H1 (R.step s1) _ fun vs H2 rs2 O2 ⟨e1, e2⟩ s2 z2 => ?_
  subst e1; subst e2
  exact ⟨_, .v (.ref q) :: rs2, Φ, Ξ, s2.ok, by rw [List.append_nil]; exact .cons rfl z2, hT, fun v H' r O' f s z => k' v H' r O' f ((s1.trans s2).trans s) z, fun cls H' O' z s => qx cls H' O' z ((s1.trans s2).trans s)⟩
end
end Py
namespace Py
open PySem PySem.Spec PyProof.Rows L2
/-! ### lambdas handed to a def -/
theorem setO_same {O : Own} {p : Addr} {o : OO} (hn : (O.map (·.1)).Nodup) (h : (p, o) ∈ O) : setO O p o = O := by
  unfold setO
  conv => rhs; rw [← List.map_id O]
  apply List.map_congr_left
  intro q hq
  by_cases hk : q.1 = p
  · rw [if_pos hk]
    exact own_eq hn h hq hk.symm
  · rw [if_neg hk]
    rfl
/-- what the lambda saw when it was made -/
def capP (K : PySem.W.Frag) (E : En) (σ : L2.St) (c' : Addr) (q : Str) : Hp → Prop := fun W => W c' = some (LamX.CodeO c' q) ∧ ∀ (i : Nat) (r : SV), E[i]? = some (some r) → ∃ v, σ[i]? = some (some v) ∧ SVr K W v r
theorem capP.mono {K : PySem.W.Frag} {E : En} {σ : L2.St} {c' : Addr} {q : Str} : ∀ W1 W2, Sub W1 W2 → capP K E σ c' q W1 → capP K E σ c' q W2 := fun W1 W2 e ⟨h1, h2⟩ => ⟨e _ _ h1, fun i r z => let ⟨v, a, b⟩ := h2 i r z; ⟨v, a, b.sub e⟩⟩
abbrev lamO (q : Str) (params : Arguments) (body : Expr) (scope : Scope) (cl : List (Str × Addr)) (pm : Value) (c' : Addr) (ctv : Value) : Obj := PySem.W.kla_obj "<lambda>" q params body scope cl pm c' ctv
section
variable {X : Cx} {pins : List (Addr × Obj)} {σ : L2.St} {H : Hp} {s : Shared} {O : Own}
theorem stp_tab {P c : Addr} {q : Str} {arr more : Array Value} (ok : OwnOk X.K O H) (hO : (P, .tab q) ∈ O) (hP : H P = some (.tbl arr)) (nC : H c = none) (h1 : TriplesOk (arr ++ more).toList)
    (h2 : ∀ (pos : Pos) (cv : Value), codeAmong pos (arr ++ more).toList = some cv → codeAmong pos arr.toList = some cv ∨ cv = .ref c) :
    Stp X.K O H O (upd (upd H P (.tbl (arr ++ more))) c (LamX.CodeO c q)) ∧ vis O (upd (upd H P (.tbl (arr ++ more))) c (LamX.CodeO c q)) c = some (LamX.CodeO c q) := by
  have nPc : P ≠ c := ne_of_none hP nC
  have a1 := Stp.laid (o := LamX.CodeO c q) ok nC
  have key : P ∈ O.map (·.1) := List.mem_map_of_mem hO
  have hP1 : upd H c (LamX.CodeO c q) P = some (.tbl arr) := by rw [upd_ne nPc]; exact hP
  have vc : vis O (upd H c (LamX.CodeO c q)) c = some (LamX.CodeO c q) := vis_laid ok nC
  have a2 := Stp.put (o := .tab q) (ho := .tbl (arr ++ more)) a1.ok key (fun x e => by rw [hP1] at e; cases e) ⟨arr ++ more, upd_same, h1, fun pos cv hc => by
    rcases h2 pos cv hc with z | z
    · obtain ⟨ps', e1, _, e3⟩ := a1.ok.is _ hO
      have e1 : upd H c (LamX.CodeO c q) P = some (.tbl ps') := e1
      rw [hP1] at e1
      cases e1
      exact e3 pos cv z
    · exact ⟨c, z, vc⟩⟩
  rw [setO_same ok.nd hO] at a2
  have e : upd (upd H c (LamX.CodeO c q)) P (.tbl (arr ++ more)) = upd (upd H P (.tbl (arr ++ more))) c (LamX.CodeO c q) := by
    funext b
    by_cases hb : b = P
    · rw [hb, upd_same, upd_ne nPc, upd_same]
    · by_cases hc : b = c
      · rw [hc, upd_ne (Ne.symm nPc), upd_same, upd_same]
      · rw [upd_ne hb, upd_ne hc, upd_ne hc, upd_ne hb]
  rw [e] at a2
  exact ⟨a1.trans a2, a2.vis _ _ vc⟩
theorem lam_mk {c P : Addr} {params : Arguments} {body : Expr} {scope : Scope} {pos : Pos} {Er : Value → Shared → Prop} {Q : Value → Shared → Prop} (I : Inv X pins σ H s) (TB : LamX.TabB X.base X.mg c P) (hcode : X.env.code = .ref c) (ok : OwnOk X.K O H)
    (hO : (P, .tab (X.env.qual ++ "<lambda>")) ∈ O) (hdef : defaultsOf params X.env = ([], [])) (hfree : ∀ y ∈ scope.names, y.2 = .free → ∃ c, X.env.cells.lookup y.1 = some c)
    (h : ∀ (f c' : Addr) (pm ctv : Value) (H1 : Hp) (s' : Shared), Inv X ((f, lamO (X.env.qual ++ "<lambda>") params body scope (cloFrom X.env.cells scope.names []) pm c' ctv) :: pins) σ H1 s' → Stp X.K O H O H1 → f ∉ frs X.stack → vis O H1 c' = some (LamX.CodeO c' (X.env.qual ++ "<lambda>")) → Q (.ref f) s') :
    wpAny (model X.prog X.w) X.A (eval (.Lambda params body scope pos) X.env) Q Er s := by
  obtain ⟨arr, hP, tri, known⟩ := ok.is _ hO
  have hPh : s.heap.get? P = some { cls := .none, data := .fields arr } := I.hok P _ hP
  have away : ∀ f, s.heap.objs.size ≤ f → f ≠ X.env.locals ∧ f ∉ X.fs ∧ f ∉ frs X.stack := fun f hge =>
    ⟨fun z => absurd (Nat.lt_of_lt_of_le I.lt hge) (by rw [z]; exact Nat.lt_irrefl _), I.nofs hge, fun z => (List.mem_cons.mp (I.stkSub _ z)).elim (fun z2 => absurd (Nat.lt_of_lt_of_le I.lt hge) (by rw [← z2]; exact Nat.lt_irrefl _)) (I.nofs hge)⟩
  have done : ∀ (f c' : Addr) (pm ctv : Value) (H1 : Hp) (s' : Shared), s.heap.objs.size ≤ f → Inv X pins σ H1 s' → s'.heap.get? f = some (lamO (X.env.qual ++ "<lambda>") params body scope (cloFrom X.env.cells scope.names []) pm c' ctv) → H1 f = none → Stp X.K O H O H1 →
      vis O H1 c' = some (LamX.CodeO c' (X.env.qual ++ "<lambda>")) → Q (.ref f) s' := fun f c' pm ctv H1 s' hge J hget hno hst hvis => by
    obtain ⟨w1, w2, w3⟩ := away f hge
    refine h f c' pm ctv H1 s' (J.pins_of fun r hr => ?_) hst w3 hvis
    rcases List.mem_cons.mp hr with z | z
    · rw [z]
      exact ⟨hget, hno, w1, w2, fun v z => nomatch z⟩
    · exact J.pin r (List.mem_append_right _ z)
  refine PySem.W.kla_eval hdef ?_
  cases hc : codeAmong pos arr.toList with
  | some cv =>
    obtain ⟨c', rfl, hco⟩ := known pos cv hc
    refine PySem.W.kla_makeFunctionHit (ps := arr) (closure_ok hfree) I.ok.glob (I.mod.glob.keeps I.bk) hcode (TB.code.keeps I.bk) hPh tri hc (TB.bm.keeps I.bk) fun ctv h' tk grow bigger => ?_
    exact done _ c' _ ctv H _ bigger (I.kept fun b o e => Heap.get?_push_of_some _ (grow b o e)) (Heap.get?_push_size _ rfl) (I.hok.fresh bigger) (.refl ok) hco
  | none =>
    refine PySem.W.kla_makeFunction (ps := arr) (closure_ok hfree) I.ok.glob (I.mod.glob.keeps I.bk) hcode (TB.code.keeps I.bk) hPh tri hc TB.gP (TB.bm.keeps I.bk) fun c' ctv h' tk grow low high record written => ?_
    obtain ⟨c2, oc, fs, tok, e2, g1, g2, g3⟩ := record
    cases e2
    have bigger : s.heap.objs.size ≤ h'.objs.size := Nat.le_of_lt (Nat.lt_of_le_of_lt low high)
    have newc : H c' = none := I.hok.fresh low
    have eqL : (arr ++ #[rawInt pos.line, rawInt pos.col, Value.ref c']).toList = arr.toList ++ [rawInt pos.line, rawInt pos.col, Value.ref c'] := by simp
    obtain ⟨hst, hvis⟩ := stp_tab (more := #[rawInt pos.line, rawInt pos.col, Value.ref c']) ok hO hP newc (by rw [eqL]; exact PySem.TriplesOk_snoc _ _ _ _ tri) (fun p' cv z => by rw [eqL] at z; exact LamX.among_app _ tri z)
    refine done _ c' _ ctv _ _ bigger (LamX.inv_table I hP (fun b o hb e => Heap.get?_push_of_some _ (grow b o hb e)) (Heap.get?_push_of_some _ written) low ⟨oc, fs, tok, Heap.get?_push_of_some _ g1, g2, g3⟩) (Heap.get?_push_size _ rfl) ?_ hst hvis
    rw [upd_ne (Nat.ne_of_gt high), upd_ne (Nat.ne_of_gt (Nat.lt_of_lt_of_le (Heap.lt_size hPh) bigger))]
    exact I.hok.fresh bigger
end
/-- the lambda called, in the def that got it -/
theorem act {X : Cx} {pins : List (Addr × Obj)} {σ : L2.St} {H : Hp} {s : Shared} {O : Own} {E Eg : En} {Φ : SV → Own → Prop} {Ξ : XI} {CXg : CXT} {Ex : XK} {Ng : List Str} {qg : Str} {sg : Scope} {g f c' : Addr} {cdg pm ctv : Value} {params : Arguments} {body : Expr} {scope : Scope} {k i : Nat} {a : Str} {pn : List (Addr × Obj)} {xe : Value → Shared → Prop} {p1 p2 : Pos}
    (I : Inv X pins σ H s) (L : LamX.LamS X.env.scope scope) (hf : s.heap.get? f = some (lamO (X.env.qual ++ "<lambda>") params body scope (cloFrom X.env.cells scope.names []) pm c' ctv)) (hfn : H f = none) (hfr : f ∉ frs X.stack) (hlen : σ.length = E.length)
    (hbind : ∀ (q : Str) (cl : List (Str × Addr)) (pm cv ctv : Value), bindArgs (PySem.W.kla_fn "<lambda>" q params body scope cl pm cv ctv) ⟨[], []⟩ = pure []) (hr : Room (k + 1) (X.A.deeper (envOfC qg sg s.heap.objs.size g cdg)))
    (hbody : ∀ (A : Around) (outer : List Env) (s : Shared) (H : Hp) (Ex : XK), Room k (A.deeper (LamX.lamEnv X scope s.heap.objs.size f c')) → EGX (LamX.lamCx X A outer s H Ex scope f c') body E O Φ Ξ)
    (hE : Eg[i]? = some (some (.m (.ref f) (capP X.K E σ c' (X.env.qual ++ "<lambda>"))))) (hN : Ng[i]? = some a) (hv : Vis sg a) (hd : (a == ("__debug__" : Str)) = false) (hcd : (a == ("__classdict__" : Str)) = false) :
    EGS ((cxOf CXg X.prog X.w X.K X.mg X.base Ng qg sg g cdg X.A X.stack s H Ex).tr pn xe) (.Call (.Name a p1) [] [] p2) Eg O Φ Ξ := by
  intro W tk σZ HZ RZ Q q qx pinsZ sZ IZ
  obtain ⟨v, hs, hev, ⟨hcode, hcap⟩, _⟩ := RZ.sl i _ hE
  subst hev
  have RL : Rep X.K E O σ HZ := ⟨hlen, RZ.own, hcap⟩
  refine wpAny_Call_Name_kw (thn ((pe_var (pos := p1) (i := i) hN hv hd hcd).run pinsZ sZ σZ HZ (fun v H1 => v = V.ref f ∧ H1 = HZ) IZ ⟨.ref f, hs, rfl, rfl⟩) fun u s1 ⟨v, H1, I1, r1, ev, eH⟩ => ?_)
  subst ev
  rw [eH] at I1
  obtain rfl : u = Value.ref f := r1
  have un : Un (frs X.stack) [] H HZ s.heap s1.heap := I1.base
  have there : s1.heap.get? f = some (lamO (X.env.qual ++ "<lambda>") params body scope (cloFrom X.env.cells scope.names []) pm c' ctv) := un.keep f _ hf hfn hfr (by simp)
  refine PySem.W.callWith_F0 ⟨_, _, _, _, there⟩ ?_
  obtain ⟨⟨oc, fs, tok, g1, g2, g3⟩, _, _⟩ := I1.hok c' _ (vis_sub _ _ _ _ hcode)
  have ran : codeAny (model X.prog X.w) (X.A.deeper (envOfC qg sg s.heap.objs.size g cdg)) (.call (.ref f) ⟨[], []⟩) (CR (L2.CX X.prog X.w) (envOfC qg sg s.heap.objs.size g cdg :: X.stack) X.prog X.w HZ s1 Q fun cls d H' => W cls d σZ H') s1 := by
    refine PySem.W.kla_callFunE hr.depth there rfl L.co L.gen rfl ⟨c', oc, fs, tok, rfl, g1, g2, g3⟩ ?_
    rw [hbind]
    refine wpAny_pure (wpAny_newFunctionEnv (fun y hy => (L.own y hy).2) (fun y hy => absurd hy (by simp)) (fun h₁ hns hsb => ⟨I1.nolimit.fresh _ hsb, ?_⟩) L.kind)
    show codeAny _ _ (.expr body (LamX.lamEnv X scope s1.heap.objs.size f c')) _ _
    have J := LamX.lam_start2 (tk := s1.toks + ([] : List (Str × Value)).length) (E := fun cls d H' => W cls d σZ H') (f := f) (c' := c') I L I1.env0 hr.hd un hns (fun b o e => hsb.extBut b o (Nat.ne_of_lt (Heap.lt_size e)) (Heap.get?_push_of_some _ e))
    have B := hbody (X.A.deeper (envOfC qg sg s.heap.objs.size g cdg)) (envOfC qg sg s.heap.objs.size g cdg :: X.stack) s1 HZ (fun cls d H' => W cls d σZ H') (hr.deeper _) (fun cls d H' => W cls d σZ H') (takes_of rfl rfl rfl rfl) σ HZ RL Q q qx [] _ J
    refine PySem.W.kla_codeExpr (wpAny_mono B (fun v s' hq => ?_) fun e s' hq => hq)
    obtain ⟨v', H', J', rv, z⟩ := hq
    exact ⟨v', H', J'.os, J'.bare, J'.base, J'.hok, rv, z⟩
  refine wpAny_call (codeAny_mono ran fun r s' hq => ?_)
  cases r with
  | ok fl =>
    cases fl with
    | ret u => exact I1.after hq
    | next => exact False.elim hq
    | brk => exact False.elim hq
    | cont => exact False.elim hq
  | error e => exact tk e s' (XE.of_call I1 (fun _ _ _ z => z) hq)
/-- a def that is given a lambda first -/
abbrev FSpecL := List SV → Own → (SV → Own → Prop) → XI → (SV → Own → Prop) → Prop
abbrev BodyL (P : Program) (w : World) (K : PySem.W.Frag) (mg : Str → Option Value) (base : Heap) (Ng : List Str) (x a : Str) (st : Stmt) (k : Nat) (T : FSpecL) : Prop := ∀ (g : Addr) (cdv : Value) (A : Around) (outer : List Env) (s : Shared) (H : Hp) (Ex : XK) (f : Addr) (Pm : Hp → Prop) (rs : List SV) (O : Own) (Φ : SV → Own → Prop) (Ξ : XI) (Ψ : SV → Own → Prop),
  Room k (cxOf CX0 P w K mg base Ng x (defScope st) g cdv A outer s H Ex).nox.A → T rs O Φ Ξ Ψ →
  (∀ (pn : List (Addr × Obj)) (xe : Value → Shared → Prop) (Eg : En) (p1 p2 : Pos), Eg[0]? = some (some (.m (.ref f) Pm)) → EGS ((cxOf CX0 P w K mg base Ng x (defScope st) g cdv A outer s H Ex).tr pn xe) (.Call (.Name a p1) [] [] p2) Eg O Φ Ξ) →
  SB (cxOf CX0 P w K mg base Ng x (defScope st) g cdv A outer s H Ex).nox (defBody st) (startE Ng (.m (.ref f) Pm :: rs)) O ⟨fun _ O' => Ψ vN O', Ψ, fun _ _ => False, fun _ _ => False⟩
def FnL (P : Program) (w : World) (K : PySem.W.Frag) (mg : Str → Option Value) (base : Heap) (x : Str) (k : Nat) (T : FSpecL) : Prop := ∃ (st : Stmt) (Ng : List Str) (a : Str) (ps : List Str), Has K mg x st ∧ FnScope Ng (a :: ps) (defScope st) ∧ BindsB x x (a :: ps) st ∧ Ng[0]? = some a ∧ Vis (defScope st) a ∧ (a == ("__debug__" : Str)) = false ∧ (a == ("__classdict__" : Str)) = false ∧
  (∀ rs O Φ Ξ Ψ, T rs O Φ Ξ Ψ → rs.length = ps.length) ∧ BodyL P w K mg base Ng x a st k T
theorem g_lam {X : Cx} {x : Str} {j : Nat} {T : FSpecL} {params : Arguments} {body : Expr} {scope : Scope} {c P : Addr} {es : List Expr} {rs : List SV} {E : En} {O : Own} {Φ Ψ : SV → Own → Prop} {Ξ : XI} {lpos pos p : Pos} (F : FnL X.prog X.w X.K X.mg X.base x (j + 1) T) (hr : Room (j + 2) X.A)
    (TB : LamX.TabB X.base X.mg c P) (hcode : X.env.code = .ref c) (hO : (P, .tab (X.env.qual ++ "<lambda>")) ∈ O) (L : LamX.LamS X.env.scope scope) (ha : EA X es E O rs) (hT : T rs O Φ Ξ Ψ)
    (hlam : ∀ (A : Around) (outer : List Env) (s : Shared) (H : Hp) (Ex : XK) (f c' : Addr), Room j (A.deeper (LamX.lamEnv X scope s.heap.objs.size f c')) → EGX (LamX.lamCx X A outer s H Ex scope f c') body E O Φ Ξ)
    (hdef : defaultsOf params X.env = ([], []) := by rfl) (hbind : ∀ (q : Str) (cl : List (Str × Addr)) (pm cv ctv : Value), bindArgs (PySem.W.kla_fn "<lambda>" q params body scope cl pm cv ctv) ⟨[], []⟩ = pure [] := by intros; rfl) (hg : Gl X x := by rfl) (hdb : (x == ("__debug__" : Str)) = false := by decide)
    (he : starEach (.Lambda params body scope lpos :: es) X.env = (false, eval (.Lambda params body scope lpos) X.env) :: starEach es X.env := by rfl) (hpl : (backTo pos (starEach es X.env)).any (·.1) = false := by rfl) :
    EG X (.Call (.Name x p) (.Lambda params body scope lpos :: es) [] pos) E O Ψ := by
  obtain ⟨st, Ng, a, ps, ⟨g, fd, FD, hm⟩, Sg, hb, h0, hva, hd1, hd2, hlen, hbd⟩ := F
  have hbn := FD.bindsN hb
  have hkp := FD.kp
  obtain ⟨oc, od, dV, kV, doc, pm, an, cdv, ct, osl, rfl, lk, hcg, _, _⟩ := FD.ex
  intro σ H R Q q pins s I
  refine wpAny_Call_Name_kw (ld_glob I hg hm ?_ hdb)
  refine PySem.W.callWith_K (h₀ := X.base) I.ok.mod.kin hkp ?_ he hpl
  show wpAny _ _ (spliced ((false, eval (.Lambda params body scope lpos) X.env) :: backTo pos (starEach es X.env))) _ _ s
  refine Calls.spliced_cons (lam_mk I TB hcode R.own hO hdef (L.has I.ok) fun f c' pm' ctv H1 s' I1 st1 hfr hco => ?_)
  refine thn (ha σ H1 (R.step st1) (fun vs H2 => Stp X.K O H1 O H2 ∧ SVs X.K (vis O H2) vs rs) (fun vs H2 rs2 O2 ⟨e1, e2⟩ st2 z => by subst e1; subst e2; exact ⟨st2, z⟩) pos _ s' I1) fun us s2 hh => ?_
  obtain ⟨vs, H2, I2p, rv, st2, z2⟩ := hh
  have I2 := ClX.unpin I2p
  have hf2 := ClX.pin_at I2p
  have hn2 := ClX.pin_un I2p
  refine ⟨I2.kIn, ?_⟩
  have R2 := R.step (st1.trans st2)
  have hl : (V.ref f :: vs).length = (a :: ps).length := by rw [List.length_cons, z2.len, hlen rs O Φ Ξ Ψ hT, List.length_cons]
  have bnd := hbn s2 (.ref f :: us) I2.kIn (by rw [List.append_nil, ← hl, List.length_cons, List.length_cons, rv.length])
  rw [List.append_nil] at bnd
  have ran : codeAny (model X.prog X.w) X.A (.call (.ref g) ⟨.ref f :: us, []⟩) (CR CX0 X.stack X.prog X.w H2 s2 Q E0) s2 := by
    refine LamX.run_ofS (N := Ng) (ps := a :: ps) (us := .ref f :: us) (vs := .ref f :: vs) lk hcg Sg hr I2.env0 bnd (.cons rfl rv) hl fun hr' => ?_
    refine ⟨_, PSs.nox WSs.pss, ?_⟩
    refine hbd g cdv X.A X.stack s2 H2 E0 f (capP X.K E σ c' (X.env.qual ++ "<lambda>")) rs O Φ Ξ Ψ hr' hT (fun pn xe Eg p1 p2 hE => act (i := 0) (params := params) (body := body) (scope := scope) (pm := pm') (ctv := ctv) I2 L hf2 hn2 hfr R2.len hbind hr' (fun A outer s H Ex hr2 => hlam A outer s H Ex f c' hr2) hE h0 hva hd1 hd2)
      (L2.start Ng (.ref f :: vs)) H2 (rep_start st2.ok (.cons ⟨rfl, ⟨st2.vis _ _ hco, R2.sl⟩, capP.mono⟩ z2)) _ ⟨?_, ?_, ?_, ?_⟩
    · intro σ' H' E' O' z s R'
      exact q .non H' vN O' z ((st1.trans st2).trans s) .non
    · intro v H' r O' z s z2
      exact q v H' r O' z ((st1.trans st2).trans s) z2
    · intro _ _ _ _ z
      exact z.elim
    · intro _ _ _ _ z
      exact z.elim
  refine wpAny_call (codeAny_mono ran fun r s3 hq => ?_)
  cases r with
  | ok fl =>
    cases fl with
    | ret u => exact I2.after hq
    | next => exact False.elim hq
    | brk => exact False.elim hq
    | cont => exact False.elim hq
  | error e => exact (show False from hq).elim
end Py
namespace Py
open PySem PySem.Spec PyProof.Rows L2
/-! ### try .. except; what told needs -/
theorem Rep.unset {K : PySem.W.Frag} {E : En} {O : Own} {σ : L2.St} {H : Hp} (h : Rep K E O σ H) (i : Nat) : Rep K (E.set i none) O (σ.set i none) H := ⟨by rw [List.length_set, List.length_set]; exact h.len, h.own, fun j r e => by
  by_cases hj : i = j
  · subst hj
    by_cases hl : i < E.length
    · rw [List.getElem?_set_self hl] at e
      cases e
    · rw [List.getElem?_eq_none (by rw [List.length_set]; omega)] at e
      cases e
  · rw [List.getElem?_set_ne hj] at e
    rw [List.getElem?_set_ne hj]
    exact h.sl j r e⟩
abbrev XS := Value → En → Own → Prop
def SBS (X : Cx) (sts : List Stmt) (E : En) (O : Own) (D : PD) (Ξ : XS) : Prop := ∀ W : WX, Takes X W → ∀ σ H, Rep X.K E O σ H → ∀ D', Ref X.K O H D D' → (∀ cls σ' H' E' O', Ξ cls E' O' → Stp X.K O H O' H' → Rep X.K E' O' σ' H' → W cls none σ' H') → WSs X sts D' σ H
section
variable {X : Cx} {a b e : Expr} {E : En} {O : Own} {D : PD} {pos p np pos' : Pos} {body suite : List Stmt} {b₀ : Stmt} {x n : Str} {c : Value} {i : Nat} {Ξ : XS}
theorem s_tryAs (i : Nat) (hs : X.stack = X.env :: X.outer) (hf : X.env.frame = some X.env.locals) (hN : X.N.Nodup) (hi : X.N[i]? = some n) (hln : X.env.kindOf n = some .local) (hc : Names X x c)
    (hb : ∀ (pn : List (Addr × Obj)) (xe : Value → Shared → Prop), SBS (X.tr pn xe) body E O D Ξ)
    (hcls : ∀ cls E' O', Ξ cls E' O' → PySem.W.exmOne X.K cls c = some true ∧ ∀ (a : Addr) (oe : Obj) (pn : List (Addr × Obj)), Zc cls none oe → (∃ vs, oe.data = .fields vs) →
      SB (X.suite a ((a, oe) :: pn)) (b₀ :: suite) (E'.set i (some (.v (.ref a)))) O' ⟨fun E2 O2 => D.nx (E2.set i none) O2, D.rt, fun E2 O2 => D.bk (E2.set i none) O2, fun E2 O2 => D.ct (E2.set i none) O2⟩) :
    SG X (.Try body [.ExceptHandler (some (.Name x np)) (some n) (b₀ :: suite) pos'] [] [] pos) E O D := fun σ H R D' r => by
  refine ws_of (ps_try_as (i := i) (tb := fun W D'' σ1 H1 => Rep X.K E O σ1 H1 ∧ Ref X.K O H1 D D'' ∧ ∀ cls σ' H' E' O', Ξ cls E' O' → Stp X.K O H1 O' H' → Rep X.K E' O' σ' H' → W cls none σ' H')
    (ts := fun a cls d D'' σ1 H1 => ∃ E' O', d = none ∧ Ξ cls E' O' ∧ Rep X.K (E'.set i (some (.v (.ref a)))) O' σ1 H1 ∧ Ref X.K O' H1 ⟨fun E2 O2 => D.nx (E2.set i none) O2, D.rt, fun E2 O2 => D.bk (E2.set i none) O2, fun E2 O2 => D.ct (E2.set i none) O2⟩ D'')
    hs hf hN hi hln hc L2.takes0 (fun W pn xe tk _ => ⟨fun pins s σ1 H1 D1 I ⟨R1, r1, w1⟩ => hb pn xe W tk σ1 H1 R1 D1 r1 w1 pins s I⟩) (fun a oe cls d pn hz hv => ⟨fun pins s σ1 H1 D1 I ⟨E', O', e1, hX, R1, r1⟩ => by
      subst e1
      exact (hcls cls E' O' hX).2 a oe pn hz hv σ1 H1 R1 D1 r1 pins s I⟩)) ?_
  refine ⟨R, r, fun cls σ' H' E' O' hX st R' => ⟨true, (hcls cls E' O' hX).1, fun _ a ha => ⟨E', O', rfl, hX, R'.set i rfl, ?_⟩, fun z => nomatch z⟩⟩
  exact ⟨fun σ2 H2 E2 O2 h s2 R2 => r.nx _ H2 _ O2 h (st.trans s2) (R2.unset i), fun v H2 r2 O2 h s2 z => r.rt v H2 r2 O2 h (st.trans s2) z, fun σ2 H2 E2 O2 h s2 R2 => r.bk _ H2 _ O2 h (st.trans s2) (R2.unset i), fun σ2 H2 E2 O2 h s2 R2 => r.ct _ H2 _ O2 h (st.trans s2) (R2.unset i)⟩
theorem s_tryOnly (hs : X.stack = X.env :: X.outer) (hf : X.env.frame = some X.env.locals) (hc : Names X x c)
    (hb : ∀ (pn : List (Addr × Obj)) (xe : Value → Shared → Prop), SBS (X.tr pn xe) body E O D Ξ)
    (hcls : ∀ cls E' O', Ξ cls E' O' → PySem.W.exmOne X.K cls c = some true ∧ ∀ (a : Addr) (oe : Obj) (pn : List (Addr × Obj)), SB (X.suite a ((a, oe) :: pn)) (b₀ :: suite) E' O' D) :
    SG X (.Try body [.ExceptHandler (some (.Name x np)) none (b₀ :: suite) pos'] [] [] pos) E O D := fun σ H R D' r => by
  refine ws_of (ps_try_only (tb := fun W D'' σ1 H1 => Rep X.K E O σ1 H1 ∧ Ref X.K O H1 D D'' ∧ ∀ cls σ' H' E' O', Ξ cls E' O' → Stp X.K O H1 O' H' → Rep X.K E' O' σ' H' → W cls none σ' H')
    (ts := fun a cls d D'' σ1 H1 => ∃ E' O', Ξ cls E' O' ∧ Rep X.K E' O' σ1 H1 ∧ Ref X.K O' H1 D D'')
    hs hf hc L2.takes0 (fun W pn xe tk _ => ⟨fun pins s σ1 H1 D1 I ⟨R1, r1, w1⟩ => hb pn xe W tk σ1 H1 R1 D1 r1 w1 pins s I⟩) (fun a oe cls d pn hz hv => ⟨fun pins s σ1 H1 D1 I ⟨E', O', hX, R1, r1⟩ => (hcls cls E' O' hX).2 a oe pn σ1 H1 R1 D1 r1 pins s I⟩)) ?_
  exact ⟨R, r, fun cls σ' H' E' O' hX st R' => ⟨true, (hcls cls E' O' hX).1, fun _ a ha => ⟨E', O', hX, R', r.step st⟩, fun z => nomatch z⟩⟩
/-- found = (text, e), where e may raise -/
theorem sbs_told {m y : Str} {py tp : Pos} {j kk : Nat} {Φ : SV → Own → Prop} {Ξ : XI} (i : Nat) (hN : X.N.Nodup) (he : EGS X e E O Φ Ξ) (h : ∀ r O', Φ r O' → ∃ d, r = .d d ∧ D.nx (E.set i (some (vT [.str m, d]))) O')
    (hi : X.N[i]? = some y := by rfl) (hx : Loc X.env.scope y := by first | exact Or.inl rfl | exact Or.inr rfl)
    (hs : swapsWith (.Tuple [.Constant (.str m) j p, e] kk tp) (some (.Name y py)) pos.line X.env = pure false := by rfl) (hf : X.fn y = true ∨ X.env.scope.names.lookup y = some .local := by first | exact .inl rfl | exact .inr rfl | assumption)
    (hs1 : starEach [.Constant (.str m) j p, e] X.env = (false, eval (.Constant (.str m) j p) X.env) :: starEach [e] X.env := by rfl) (hs2 : starEach [e] X.env = (false, eval e X.env) :: starEach [] X.env := by rfl) :
    SBS X [.Assign [.Name y py] (.Tuple [.Constant (.str m) j p, e] kk tp) pos] E O D (fun cls E' O' => E' = E ∧ Ξ cls O') := fun W tk σ H R D' r w => wss_of (pss_one (ps_set hN hi hx (pe_tup (pa_cons pe_str (pa_cons WE.pe pa_nil hs2) hs1)) hs hf)) (by
  refine he W tk σ H R _ (fun v H1 r1 O1 f s1 z => ?_) (fun cls H' O' hX st => w cls σ H' E O' ⟨rfl, hX⟩ st (R.step st))
  obtain ⟨d, rfl, hd⟩ := h r1 O1 f
  refine ⟨by show 2 ≤ _; decide, fun q hq => ?_⟩
  have s2 := Stp.laid (o := .tup [.str m, v]) s1.ok hq
  have zz : SVr X.K (vis O1 (upd H1 q (.tup [.str m, v]))) (.ref q) (vT [.str m, d]) := .tup (.inl (vis_laid s1.ok hq)) (.cons (.str m) (.cons (dp_sub s2.vis _ _ z) .nil))
  exact r.nx _ _ _ O1 hd (s1.trans s2) ((R.step (s1.trans s2)).set i zz))
/-! isinstance of what was caught -/
theorem x_isE {q : Addr} {oe : Obj} {pn : List (Addr × Obj)} {Dk : Addr} {v : V} {cv : Value} {bb : Bool} (C : ExcC X.K Dk) (hz : Zc (.ref Dk) none oe) (hv : ∃ vs, oe.data = .fields vs) (hm : X.mg "isinstance" = none)
    (ha : EX (X.suite q ((q, oe) :: pn)) a E O (.v (.ref q))) (hb : EX (X.suite q ((q, oe) :: pn)) b E O (.v v)) (hcv : ∀ u, RelV v u → u = cv) (hk : PySem.W.kitOne X.K (.ref Dk) cv = some bb) (hg : Gl X "isinstance" := by rfl)
    (hs : starEach [a, b] X.env = (false, eval a X.env) :: starEach [b] X.env := by rfl) (hs2 : starEach [b] X.env = (false, eval b X.env) :: starEach [] X.env := by rfl) (hpl : (backTo pos (starEach [b] X.env)).any (·.1) = false := by rfl) :
    EX (X.suite q ((q, oe) :: pn)) (.Call (.Name "isinstance" p) [a, b] [] pos) E O (vB bb) := g_cb (X := X.suite q ((q, oe) :: pn)) (call_isE C hz hv) hg hm PyProof.Rows.boot_isinstance (a_cons ha (a_cons hb a_nil hs2) hs) (fun vs H ok hvs Q k => by
    cases hvs with
    | cons z1 z2 =>
      cases z2 with
      | cons z2 z3 =>
        cases z3
        exact ⟨v, cv, bb, by rw [show _ = V.ref q from z1, show _ = v from z2], hcv, hk, k _ H _ O ⟨rfl, rfl⟩ (.refl ok) (.bl _)⟩) (by decide) (by decide) hs hpl
/-! list.count, list.index of data -/
def rCountD (K : PySem.W.Frag) : V → List V → Hp → VK → Prop := fun x xs H Q => ∃ (a : Addr) (y : V) (d : PyData) (ds : List PyData), x = V.ref a ∧ xs = [y] ∧ Dp K H (V.ref a) (.list ds) ∧ Dp K H y d ∧ SeqAt.shaped (.list ds) = true ∧ SeqAt.shaped d = true ∧ Q (.int (ds.countP fun z => PyData.eqv z d : Nat)) H
theorem mt_countD (hu : X.A.units + 65 < cLine) : MtR X "list.count" (rCountD X.K) := by
  intro pins s σ H x xs v us Q I rx rxs h
  obtain ⟨a, y, d, ds, rfl, rfl, hl, hy, sl, sd, q⟩ := h
  cases rx
  obtain ⟨uy, rfl, ry⟩ := rxs.one
  obtain ⟨bs, rdy⟩ := Dp.reads I d y uy hy ry
  have lay : PyData.canLayAll0 ds = true := SeqAt.canLay_of_shaped sl
  cases hl with
  | lst hsq hall =>
    obtain ⟨its, rv, ⟨⟨cls, dd, data, slots⟩, n, hob, hc, _, hd⟩, _⟩ := I.list hsq
    simp only at hc hd
    subst hc hd
    obtain ⟨as, rds⟩ := Dp.readsAll I ds _ its hall rv
    refine call_meets PySem.F.slot_list_count ⟨_, hob, rfl⟩ PySem.F.entry_list_count (PySem.F.args_list_count_2 _ _)
      (SeqAt.list_countAt a its.toArray n dd slots uy fun u => PyData.eqv (SeqAt.readOf s.heap u) d) ⟨hob, SeqAt.items_eqAt (vs := its.toArray) rds rdy lay (SeqAt.canLay_of_shaped sd) (room_in_shaped sd hu), ?_⟩
    have em : its.toArray.toList.countP (fun u => PyData.eqv (SeqAt.readOf s.heap u) d) = ds.countP fun z => PyData.eqv z d := by
      rw [← SeqAt.readsAll_map ds its as lay rds, List.countP_map]
      rfl
    refine ⟨.int _, H, I.tok _, ⟨s.toks, ?_⟩, q⟩
    rw [em]
theorem x_lm {name : Str} {id : String} {rr : V → List V → Hp → VK → Prop} {ds : List PyData} {d : PyData} {r : SV} (slot : Slot "list" name id) (hty : typeOf (.builtin id) = pure (.type "method_descriptor")) (hm : MtR X id rr) (ha : EX X a E O (vL ds)) (hb : EX X b E O (.d d))
    (h : ∀ q v H, OwnOk X.K O H → SVr X.K (vis O H) (.ref q) (vL ds) → SVr X.K (vis O H) v (.d d) → ∀ Q, Kont X.K O H (is1 r O) Q → rr (.ref q) [v] H Q)
    (hbase : attributeBase a name X.env (eval a X.env) = eval a X.env := by rfl)
    (hfew : ((backTo pos (starEach [b] X.env)).all (fun x => !x.1) && (backToKw pos (keywordEach [] X.env)).all (fun x => x.1.isSome)
      && decide (([b] : List Expr).length + ([] : List Keyword).length + (if ([] : List Keyword).isEmpty then 0 else 1) < 30)) = true := by rfl)
    (hline : (p.endLine == pos.line) = true := by rfl) (hs : starEach [b] X.env = (false, eval b X.env) :: starEach [] X.env := by rfl) (hplain : (backTo pos (starEach [] X.env)).any (·.1) = false := by rfl) :
    EX X (.Call (.Attribute a name p) [b] [] pos) E O r := fun σ H R Q k => we_of (pe_bm PySem.F.plainAttrs_list slot hty hm WE.pe (pa_cons WE.pe pa_nil hs) hbase hfew hline hs hplain) (by
  refine ha σ H R _ fun v H1 r1 O1 ⟨e1, e2⟩ s1 z1 => ?_
  subst e1; subst e2
  obtain ⟨q, vs, rfl, h1, h2⟩ := lst_of z1
  refine ⟨.inl ⟨rfl, _, SqL.of (vis_sub _ _ _ _ h1)⟩, ?_⟩
  refine hb σ H1 (R.step s1) _ fun u H2 r2 O2 ⟨e1, e2⟩ s2 z2 => ?_
  subst e1; subst e2
  exact h q u H2 s2.ok (s2.sv z1) z2 Q fun v H' r O' f s z => k v H' r O' f ((s1.trans s2).trans s) z)
theorem x_countL {ds : List PyData} {d : PyData} (ha : EX X a E O (vL ds)) (hb : EX X b E O (.d d)) (h1 : SeqAt.shaped (.list ds) = true) (h2 : SeqAt.shaped d = true) (hu : X.A.units + 65 < cLine) (hbase : attributeBase a "count" X.env (eval a X.env) = eval a X.env := by rfl)
    (hfew : ((backTo pos (starEach [b] X.env)).all (fun x => !x.1) && (backToKw pos (keywordEach [] X.env)).all (fun x => x.1.isSome)
      && decide (([b] : List Expr).length + ([] : List Keyword).length + (if ([] : List Keyword).isEmpty then 0 else 1) < 30)) = true := by rfl)
    (hline : (p.endLine == pos.line) = true := by rfl) (hs : starEach [b] X.env = (false, eval b X.env) :: starEach [] X.env := by rfl) (hplain : (backTo pos (starEach [] X.env)).any (·.1) = false := by rfl) :
    EX X (.Call (.Attribute a "count" p) [b] [] pos) E O (vI (ds.countP fun z => PyData.eqv z d : Nat)) := x_lm PySem.F.slot_list_count PySem.F.type_list_count (mt_countD hu) ha hb (fun q v H ok z1 z2 Q k => ⟨q, v, d, ds, rfl, rfl, dq_dp _ _ (dp_sub (vis_sub _ _) _ _ z1), dq_dp _ _ (dp_sub (vis_sub _ _) _ _ z2), h1, h2, k _ H _ O ⟨rfl, rfl⟩ (.refl ok) (.int _)⟩) hbase hfew hline hs hplain
theorem x_indexL {ds : List PyData} {d z : PyData} {j : Nat} (ha : EX X a E O (vL ds)) (hb : EX X b E O (.d d)) (h1 : SeqAt.shaped (.list ds) = true) (h2 : SeqAt.shaped d = true) (hj : ds[j]? = some z) (he : PyData.eqv z d = true) (hno : ∀ (m : Nat) (z' : PyData), m < j → ds[m]? = some z' → PyData.eqv z' d = false) (hu : X.A.units + 65 < cLine) (hbase : attributeBase a "index" X.env (eval a X.env) = eval a X.env := by rfl)
    (hfew : ((backTo pos (starEach [b] X.env)).all (fun x => !x.1) && (backToKw pos (keywordEach [] X.env)).all (fun x => x.1.isSome)
      && decide (([b] : List Expr).length + ([] : List Keyword).length + (if ([] : List Keyword).isEmpty then 0 else 1) < 30)) = true := by rfl)
    (hline : (p.endLine == pos.line) = true := by rfl) (hs : starEach [b] X.env = (false, eval b X.env) :: starEach [] X.env := by rfl) (hplain : (backTo pos (starEach [] X.env)).any (·.1) = false := by rfl) :
    EX X (.Call (.Attribute a "index" p) [b] [] pos) E O (vI (j : Nat)) := x_lm PySem.F.slot_list_index PySem.F.type_list_index (mt_indexD hu) ha hb (fun q v H ok z1 z2 Q k => ⟨q, v, d, ds, j, z, rfl, rfl, dq_dp _ _ (dp_sub (vis_sub _ _) _ _ z1), dq_dp _ _ (dp_sub (vis_sub _ _) _ _ z2), h1, h2, hj, he, hno, k _ H _ O ⟨rfl, rfl⟩ (.refl ok) (.int _)⟩) hbase hfew hline hs hplain
end
end Py
namespace Py
open PySem PySem.Spec PyProof.Rows L2
/-! ### the refusals -/
structure KindC (K : PySem.W.Frag) (D : Addr) (i : Nat) : Prop where
  lt : i < 4
  exm : PySem.W.exmOne K (.ref D) (.ref (He.ga K "RingError")) = some true
  exc : ExcC K D
  k0 : PySem.W.kitOne K (.ref D) (.ref (He.ga K "NoStep")) = some (decide (i = 0))
  k1 : PySem.W.kitOne K (.ref D) (.ref (He.ga K "NoRoom")) = some (decide (i = 1))
  k2 : PySem.W.kitOne K (.ref D) (.ref (He.ga K "NoPoint")) = some (decide (i = 2))
  k3 : PySem.W.kitOne K (.ref D) (.ref (He.ga K "NoText")) = some (decide (i = 3))
  kv : PySem.W.kitOne K (.ref D) (.type "ValueError") = some true
def excB (K : PySem.W.Frag) (D : Addr) : Bool :=
  decide (PySem.W.findIn K (.ref D) "__getattribute__" = some (some (.builtin "BaseException.__getattribute__"))) && (decide (PySem.W.findIn K (.ref D) "__getattr__" = some none) && (decide (PySem.W.subIn K (.ref D) (.type "BaseException") = some true) && (PySem.W.hasDictIn K D &&
  (decide (PySem.W.findIn K (.ref D) "__class__" = some (some (.builtin "object.__class__"))) && (decide (PySem.W.specialIn K (.builtin "object.__class__") "__get__" = some (some (.builtin "getset_descriptor.__get__"))) && (decide (PySem.W.takesIn K (.builtin "object.__class__") = some true) && decide (PySem.W.mroIn K D (.type "object") = some true)))))))
theorem excB_ok {K : PySem.W.Frag} {D : Addr} (h : excB K D = true) : ExcC K D := by
  unfold excB at h
  simp only [Bool.and_eq_true, decide_eq_true_eq] at h
  obtain ⟨h1, h2, h3, h4, h5, h6, h7, h8⟩ := h
  exact ⟨h1, h2, h3, h4, h5, h6, h7, h8⟩
def kindB (K : PySem.W.Frag) (x : Str) (i : Nat) : Bool :=
  decide (i < 4) && (decide (PySem.W.exmOne K (.ref (He.ga K x)) (.ref (He.ga K "RingError")) = some true) && (excB K (He.ga K x) && (decide (PySem.W.kitOne K (.ref (He.ga K x)) (.ref (He.ga K "NoStep")) = some (decide (i = 0))) && (decide (PySem.W.kitOne K (.ref (He.ga K x)) (.ref (He.ga K "NoRoom")) = some (decide (i = 1))) &&
  (decide (PySem.W.kitOne K (.ref (He.ga K x)) (.ref (He.ga K "NoPoint")) = some (decide (i = 2))) && (decide (PySem.W.kitOne K (.ref (He.ga K x)) (.ref (He.ga K "NoText")) = some (decide (i = 3))) && decide (PySem.W.kitOne K (.ref (He.ga K x)) (.type "ValueError") = some true)))))))
theorem kindB_ok {K : PySem.W.Frag} {x : Str} {i : Nat} (h : kindB K x i = true) : KindC K (He.ga K x) i := by
  unfold kindB at h
  simp only [Bool.and_eq_true, decide_eq_true_eq] at h
  obtain ⟨h0, h1, h2, h3, h4, h5, h6, h7⟩ := h
  exact ⟨h0, h1, excB_ok h2, h3, h4, h5, h6, h7⟩
theorem ExK.of {K : PySem.W.Frag} {mg : Str → Option Value} {x : Str} {C : Addr} (h : PySem.W.excIn K C He.veBase "ValueError.__new__" = true ∧ PySem.W.keepIn K (.ref C) = true ∧ PySem.W.subIn K (.ref C) (.type "BaseException") = some true ∧ PySem.W.typeIn K (.ref C) = some (.type "type")) (hm : mg x = some (.ref C)) : ExK K mg x C := ⟨h.1, h.2.1, h.2.2.1, h.2.2.2, hm⟩
/-- what _law_told makes of a deed -/
def T_told (K : PySem.W.Frag) : FSpecL := fun rs O Φ Ξ Ψ => ∃ kind : Int, rs = [vI kind] ∧ (∀ r O', Φ r O' → ∃ d, r = .d d ∧ Ψ (vT [.str "told", d]) O') ∧ ∀ cls O', Ξ cls O' → ∃ D i, cls = .ref D ∧ KindC K D i ∧ Ψ (vT [.str "refused", .bool (decide ((i : Int) = kind))]) O'
/-- what _law_twice_told makes of a deed -/
def T_twice (K : PySem.W.Frag) : FSpecL := fun rs O Φ Ξ Ψ => rs = [] ∧ (∀ r O', Φ r O' → ∃ d, r = .d d ∧ Ψ (vT [.str "told", d]) O') ∧ ∀ cls O', Ξ cls O' → PySem.W.exmOne K cls (.ref (He.ga K "RingError")) = some true ∧ Ψ (vT [.str "refused", .none]) O'
/-! ### a def with lambdas: its code object is known -/
section
variable {P : Program} {w : World} {K : PySem.W.Frag} {mg : Str → Option Value} {base : Heap} {x : Str} {st : Stmt} {N ps : List Str} {k : Nat} {T : FSpec} {c : Addr}
theorem code_at {p : Str × Option Str} {nm qual : Str} {params : Arguments} {body : List Stmt} {scope : Scope} {dvs : List V} {kws : List (Str × V)} {fd : FuncData} (F : FunD K nm qual params body scope dvs kws (He.fAd K p) fd) : fd.code = .ref (He.codeOf K p) := by
  obtain ⟨oc, od, dV, kV, doc, pm, an, cdv, ct, osl, e, lk, hcd, _, _⟩ := F.ex
  obtain ⟨c, rfl⟩ := He.codeIn_ref hcd
  have e2 : fd.code = .ref c := by rw [e]
  rw [He.codeOf_eq lk e2, e2]
abbrev BodyT (P : Program) (w : World) (K : PySem.W.Frag) (mg : Str → Option Value) (base : Heap) (N : List Str) (x : Str) (st : Stmt) (k : Nat) (c : Addr) (T : FSpec) : Prop := ∀ (f : Addr) (A : Around) (outer : List Env) (s : Shared) (H : Hp) (E : XK) (rs : List SV) (O : Own) (Φ : SV → Own → Prop), Room k (cxOf CX0 P w K mg base N x (defScope st) f (.ref c) A outer s H E).nox.A → T rs O Φ →
      SB (cxOf CX0 P w K mg base N x (defScope st) f (.ref c) A outer s H E).nox (defBody st) (startE N rs) O ⟨fun _ O' => Φ vN O', Φ, fun _ _ => False, fun _ _ => False⟩
theorem fn_atT {f : Addr} {fd : FuncData} (F : FunD K x x (defArgs st) (defBody st) (defScope st) [] [] f fd) (hc : fd.code = .ref c) (S : FnScope N ps (defScope st)) (len : ∀ rs O Φ, T rs O Φ → rs.length = ps.length) (hbody : BodyT P w K mg base N x st k c T) : FnOk P w K mg base CX0 (k + 1) f fd ps (spOf K T) := by
  obtain ⟨oc, od, dV, kV, doc, pm, an, cdv, ct, osl, rfl, lk, hcd, _, _⟩ := F.ex
  obtain rfl : cdv = .ref c := hc
  refine fn_of lk hcd S (fun vs H Q E h => ?_) (fun A outer s H vs Q E hr h => ?_)
  · obtain ⟨O, rs, Φ, ok, h1, h2, _⟩ := h
    rw [h1.len]
    exact len rs O Φ h2
  · obtain ⟨O, rs, Φ, ok, h1, h2, h3⟩ := h
    refine ⟨_, PSs.nox WSs.pss, ?_⟩
    refine hbody f A outer s H E rs O Φ hr h2 (L2.start N vs) H (rep_start ok h1) _ ⟨?_, ?_, ?_, ?_⟩
    · intro σ' H' E' O' z s R'
      exact h3 .non H' vN O' z s .non
    · intro v H' r O' z s z2
      exact h3 v H' r O' z s z2
    · intro _ _ _ _ z
      exact z.elim
    · intro _ _ _ _ z
      exact z.elim
def HasT (K : PySem.W.Frag) (mg : Str → Option Value) (x : Str) (st : Stmt) (c : Addr) : Prop := ∃ f fd, FunD K x x (defArgs st) (defBody st) (defScope st) [] [] f fd ∧ mg x = some (.ref f) ∧ fd.code = .ref c
theorem fn_mkT (F : HasT K mg x st c) (S : FnScope N ps (defScope st)) (hb : BindsB x x ps st) (len : ∀ rs O Φ, T rs O Φ → rs.length = ps.length) (hbody : BodyT P w K mg base N x st k c T) : Fn P w K mg base x (k + 1) T := by
  obtain ⟨f, fd, F, hm, hc⟩ := F
  exact ⟨f, fd, ps, fn_atT F hc S len hbody, hm, F.kp, F.bindsN hb⟩
/-- the law's promise, its tables there -/
def T_lawT (P : Addr) (q : Str) : FSpec := fun rs O Φ => ∃ ns : List Int, ns.length ≤ 63 ∧ rs = [.s ns] ∧ O = [(P, .tab q)] ∧ Φ (vB true) O
theorem sp_lawT {H : Hp} {a P : Addr} {q : Str} {ns : List Int} (hl : ns.length ≤ 63) (hP : H P = some (.tbl #[])) (hS : SqL K H a (ns.map V.int)) : spOf K (T_lawT P q) [.ref a] H (fun v _ => v = .bl true) fun _ _ _ => False := by
  have hne : ∀ o, H a = some o → (∀ ps, o ≠ .tbl ps) → vis [(P, OO.tab q)] H a = some o := fun o e n => vis_of (fun z => by
    rw [List.map_cons, List.map_nil, List.mem_singleton] at z
    rw [z, hP] at e
    exact n _ (Option.some.inj e).symm) e
  refine ⟨[(P, .tab q)], [.s ns], is1 (vB true) [(P, .tab q)], ⟨by simp, fun p hp => ?_⟩, .cons ?_ .nil, ⟨ns, hl, rfl, rfl, rfl, rfl⟩, ?_⟩
  · rw [List.mem_singleton] at hp
    subst hp
    exact ⟨#[], hP, True.intro, fun pos cv hc => by
      have z : codeAmong pos [] = some cv := hc
      simp [codeAmong] at z⟩
  · refine ⟨a, rfl, ?_⟩
    rcases hS with (h | ⟨o, h⟩) | h
    · exact .inl (.inl (hne _ h fun _ z => by cases z))
    · exact .inl (.inr ⟨o, hne _ h fun _ z => by cases z⟩)
    · exact .inr h
  · rintro v H' r O' ⟨rfl, rfl⟩ s z
    exact bl_of z
/-- the end: one def whose table is needed -/
theorem lawAt_of {l : PySem.W.OpenLaw} {w : World} {k : Nat} {fa : Addr} {h : Heap} {p : He.Defn} {q : Str} {tf : List He.Defn} {ff : List He.Fa} {fn : List He.DefD} {ts : List He.Tab} {ex : PySem.W.Frag → Bool} {fd : FuncData} (KX : K.In h) (S : He.SaysX ff fn ts tf ex w h K) (hp : p ∈ tf)
    (hb : ∀ (s : Shared) (v : Value), BindsTo s fd ⟨[v], []⟩ [("script", v)]) (hF : ∀ base : Heap, K.In base → base.Ns mainGlobals mg → LamX.TabB base mg (He.cT K p).1 (He.cT K p).2 → FnOk l.prog w K mg base CX0 k fa fd ["script"] (spOf K (T_lawT (He.cT K p).2 q))) :
    LamX.LawAtS l w K CX0 k 63 "script" mg fa h := by
  refine ⟨fd, [He.cT K p], spOf K (T_lawT (He.cT K p).2 q), ?_, ?_, ?_, hb, fun H a ns hl _ hT hS => sp_lawT hl (hT _ List.mem_cons_self) hS, fun base h1 h2 h3 => hF base h1 h2 (h3 _ List.mem_cons_self)⟩
  · intro r hr
    rw [List.mem_singleton] at hr
    subst hr
    exact S.empty p hp
  · intro r hr
    rw [List.mem_singleton] at hr
    subst hr
    exact S.out p hp
  · intro r hr
    rw [List.mem_singleton] at hr
    subst hr
    exact PySem.W.codeHd_of_K KX (S.hd p hp)
end
end Py
namespace Rg
open Py
/-- gaps changed a little -/
def chg (l : List Nat) (n : Nat) : List Nat :=
  if n % 4 = 0 ∧ 1 < l.getD (n / 8 % l.length) 0 ∧ 2 < l.sum then l.take (n / 8 % l.length) ++ [l.getD (n / 8 % l.length) 0 - 1] ++ l.drop (n / 8 % l.length + 1)
  else if n % 4 = 1 then l.take (n / 8 % l.length) ++ [l.getD (n / 8 % l.length) 0 + 1] ++ l.drop (n / 8 % l.length + 1)
  else if n % 4 = 2 then l.take (n / 8 % l.length) ++ ((l.drop (n / 8 % l.length)).take 2).reverse ++ l.drop (n / 8 % l.length + 2)
  else l.drop (n / 8 % l.length) ++ l.take (n / 8 % l.length)
theorem split_at {l : List Nat} {a : Nat} (h : a < l.length) : l = l.take a ++ [l.getD a 0] ++ l.drop (a + 1) := by
  conv => lhs; rw [← List.take_append_drop a l]
  rw [List.drop_eq_getElem_cons h, List.getD_eq_getElem?_getD, List.getElem?_eq_getElem h]
  simp
theorem sum_at {l : List Nat} {a : Nat} (h : a < l.length) : l.sum = (l.take a).sum + l.getD a 0 + (l.drop (a + 1)).sum := by
  conv => lhs; rw [split_at h]
  simp [List.sum_append, Nat.add_assoc]
theorem chg_ok {l : List Nat} (n : Nat) (h : l ≠ []) : (chg l n).length = l.length ∧ (chg l n).sum ≤ l.sum + 1 := by
  have hl : 0 < l.length := List.length_pos_iff.mpr h
  have ha : n / 8 % l.length < l.length := Nat.mod_lt _ hl
  unfold chg
  generalize n / 8 % l.length = a at ha ⊢
  have hs := sum_at ha
  have e1 : (l.take a).length = a := by rw [List.length_take]; omega
  have e2 : (l.take a).sum + (l.drop a).sum = l.sum := by rw [← List.sum_append, List.take_append_drop]
  split
  · simp only [List.length_append, List.length_cons, List.length_nil, e1, List.length_drop, List.sum_append, List.sum_cons, List.sum_nil]
    omega
  · split
    · simp only [List.length_append, List.length_cons, List.length_nil, e1, List.length_drop, List.sum_append, List.sum_cons, List.sum_nil]
      omega
    · split
      · have e3 : ((l.drop a).take 2).sum + ((l.drop a).drop 2).sum = (l.drop a).sum := by rw [← List.sum_append, List.take_append_drop]
        rw [List.drop_drop] at e3
        simp only [List.length_append, List.length_reverse, List.length_take, e1, List.length_drop, List.sum_append, List.sum_reverse]
        omega
      · simp only [List.length_append, e1, List.length_drop, List.sum_append]
        omega
theorem chg_ne {l : List Nat} (n : Nat) (h : l ≠ []) : chg l n ≠ [] := by
  have := (chg_ok n h).1
  have hl : 0 < l.length := List.length_pos_iff.mpr h
  intro z
  rw [z] at this
  simp at this
  omega
theorem sum_le5 (f : Nat → Nat) : ∀ c : Nat, ((List.range c).map fun k => 1 + f k % 5).sum ≤ 5 * c
  | 0 => Nat.le_refl _
  | c + 1 => by
    rw [List.range_succ, List.map_append, List.sum_append]
    have := sum_le5 f c
    have h2 : f c % 5 < 5 := Nat.mod_lt _ (by decide)
    simp only [List.map_cons, List.map_nil, List.sum_cons, List.sum_nil]
    omega
/-- the least place, walked backward -/
def fstO (l : List Nat) : Nat → Option Nat
  | 0 => none
  | i + 1 => if stepsL (rotL l (l.length - 1 - i)) = [] then fstO l i else some (l.length - 1 - i)
theorem fstO_eq (l : List Nat) : ∀ i, i ≤ l.length → fstO l i = (List.range' (l.length - i) i).find? fun k => decide (0 < (stepsL (rotL l k)).length)
  | 0, _ => rfl
  | i + 1, h => by
    rw [show l.length - (i + 1) = l.length - 1 - i by omega, List.range'_succ, List.find?_cons]
    unfold fstO
    rw [fstO_eq l i (by omega), show l.length - i = l.length - 1 - i + 1 by omega]
    by_cases hz : stepsL (rotL l (l.length - 1 - i)) = []
    · rw [if_pos hz, hz]
      rfl
    · rw [if_neg hz, decide_eq_true (List.length_pos_iff.mpr hz)]
theorem fstO_any (l : List Nat) : fstO l l.length = anyT l := by
  rw [fstO_eq l _ (Nat.le_refl _), Nat.sub_self]
  unfold anyT
  rw [List.range_eq_range']
end Rg
namespace Py
open PySem PySem.Spec PyProof.Rows L2 Rg
def toldL (l : List Nat) : List PyData := match stepsL l with
  | [] => [.str "refused", .bool true]
  | k :: _ => [.str "told", nD k]
def T_step_forX (K : PySem.W.Frag) : FSpecX := fun rs O Φ Ξ => ∃ l : List Nat, l ≠ [] ∧ l.sum ≤ 1000 ∧ rs = [vT (l.map nD)] ∧ (∀ k r, stepsL l = k :: r → Φ (vI (k : Nat)) O) ∧ (stepsL l = [] → Ξ (.ref (He.ga K "NoStep")) O)
def T__law_steps : FSpec := T_steps_for
def T__law_changed : FSpec := pure1 fun ds d => ∃ (l : List Nat) (n : Nat), l ≠ [] ∧ l.sum ≤ 900 ∧ l.length ≤ 900 ∧ ds = [.tuple (l.map nD), .int n] ∧ d = .tuple ((chg l n).map nD)
theorem cutD_both (ds : List PyData) (a k : Nat) : cutD ds (some (a : Int)) (some ((a + k : Nat) : Int)) = (ds.drop a).take k := by
  unfold cutD
  rw [HT.sIx_nat, HT.sIx_nat]
  rcases Nat.le_total a ds.length with h | h
  · rw [Nat.min_eq_left h]
    rcases Nat.le_total (a + k) ds.length with h2 | h2
    · rw [Nat.min_eq_left h2, show a + k - a = k by omega]
    · rw [Nat.min_eq_right h2, List.take_of_length_le (by rw [List.length_drop]; omega), List.take_of_length_le (by rw [List.length_drop]; omega)]
  · rw [Nat.min_eq_right h, Nat.min_eq_right (by omega), Nat.sub_self, List.take_zero, List.drop_of_length_le h, List.take_nil]
section
variable {X : Cx} {a b c : Expr} {E : En} {O : Own} {p pos : Pos}
/-- range(n - 1, -1, -1) -/
theorem it_down {tg : Expr} {n : Nat} (hm : X.mg "range" = none) (h1 : EX X a E O (vI ((n : Int) - 1))) (h2 : EX X b E O (vI (-1))) (h3 : EX X c E O (vI (-1))) (hn : n ≤ 100000) (hg : Gl X "range" := by rfl) (hs : starEach [a, b, c] X.env = (false, eval a X.env) :: starEach [b, c] X.env := by rfl) (hs2 : starEach [b, c] X.env = (false, eval b X.env) :: starEach [c] X.env := by rfl) (hs3 : starEach [c] X.env = (false, eval c X.env) :: starEach [] X.env := by rfl) (hpl : (backTo pos (starEach [b, c] X.env)).any (·.1) = false := by rfl) :
    IT X tg (.Call (.Name "range" p) [a, b, c] [] pos) E O (List.range n) (fun i => vI ((n - 1 - i : Nat) : Int)) :=
  ⟨_, pi_range3 hg hm WA.pa hs hpl, fun σ H R Q q => by
    refine (a_cons h1 (a_cons h2 (a_cons h3 a_nil hs3) hs2) hs : EA X [a, b, c] E O [vI ((n : Int) - 1), vI (-1), vI (-1)]) σ H R _ fun vs H1 rs O1 ⟨e1, e2⟩ s z => ?_
    subst e1; subst e2
    cases z with
    | cons z1 z =>
      cases z with
      | cons z2 z =>
        cases z with
        | cons z3 z =>
          cases z
          refine ⟨(n : Int) - 1, -1, -1, n, by rw [int_of z1, int_of z2, int_of z3], ?_, q _ H1 s ⟨fun i _ _ _ hi => by show i < n; simpa using hi, fun i O' H x H' s hi y => ?_, fun _ _ _ => by show n ≤ (List.range n).length; simp⟩⟩
          · have := RgC.neg (i := (n : Int) - 1) (j := -1) (by omega) (by omega) (by omega) (by omega)
            rwa [show ((n : Int) - 1 - -1).toNat = n by omega] at this
          · obtain ⟨rfl, rfl⟩ := y
            refine ⟨.refl s.ok, ?_⟩
            rw [List.getElem_range]
            have hi' : i < n := by simpa using hi
            rw [show (n : Int) - 1 + (i : Nat) * (-1 : Int) = ((n - 1 - i : Nat) : Int) by omega]
            exact .int _⟩
end
end Py
namespace Py
open PySem PySem.Spec PyProof.Rows L2 Rg
def T_X_lay (K : PySem.W.Frag) (C : Addr) : FSpecX := fun rs O Φ Ξ => ∃ (q dx : Addr) (w s m : Nat), Row w s m ∧ rs = [.v (.ref q)] ∧ (q, .ins C dx (lf w s m)) ∈ O ∧ (m < tn w s → Φ (.d (cutT w s m)) (setO O q (.ins C dx (lf w s (m + 1))))) ∧ (m = tn w s → Ξ (.ref (He.ga K "NoRoom")) O)
def T_X_take (K : PySem.W.Frag) (C : Addr) : FSpecX := fun rs O Φ Ξ => ∃ (q dx : Addr) (w s m : Nat), 1 ≤ m ∧ rs = [.v (.ref q)] ∧ (q, .ins C dx (lf w s m)) ∈ O ∧ (2 ≤ m → Φ vN (setO O q (.ins C dx (lf w s (m - 1))))) ∧ (m = 1 → Ξ (.ref (He.ga K "NoPoint")) O)
def T_X_must_have (K : PySem.W.Frag) (C : Addr) : FSpecX := fun rs O Φ Ξ => ∃ (q dx : Addr) (w s m : Nat) (k : Int), rs = [.v (.ref q), vI k] ∧ (q, .ins C dx (lf w s m)) ∈ O ∧ (0 ≤ k ∧ k < m → Φ vN O) ∧ (¬ (0 ≤ k ∧ k < m) → Ξ (.ref (He.ga K "NoPoint")) O)
def T_X_gap_of (K : PySem.W.Frag) (C : Addr) : FSpecX := fun rs O Φ Ξ => ∃ (q dx : Addr) (w s m : Nat) (k : Int), Row w s m ∧ rs = [.v (.ref q), vI k] ∧ (q, .ins C dx (lf w s m)) ∈ O ∧ (∀ n : Nat, k = n → n < m → Φ (vI (gapN w s m n : Nat)) O) ∧ (¬ (0 ≤ k ∧ k < m) → Ξ (.ref (He.ga K "NoPoint")) O)
def T_X_next_to (K : PySem.W.Frag) (C : Addr) : FSpecX := fun rs O Φ Ξ => ∃ (q dx : Addr) (w s m : Nat) (k : Int), Row w s m ∧ rs = [.v (.ref q), vI k] ∧ (q, .ins C dx (lf w s m)) ∈ O ∧ (∀ n : Nat, k = n → n < m → Φ (.d (nD (nx w s m n))) O) ∧ (¬ (0 ≤ k ∧ k < m) → Ξ (.ref (He.ga K "NoPoint")) O)
end Py
namespace Py
open PySem PySem.Spec PyProof.Rows L2 Rg
theorem eg_ofX {X : Cx} {e : Expr} {E : En} {O : Own} {Φ : SV → Own → Prop} (h : EGX X e E O Φ fun _ _ => False) : EG X e E O Φ := fun σ H R Q q => h (fun _ _ _ => False) L2.takes0 σ H R Q q (fun _ _ _ z _ => z.elim)
end Py
namespace Py
open PySem PySem.Spec PyProof.Rows L2 Rg
theorem sh_two {n : Nat} {x : Str} {d : PyData} (hx : PyData.canLay0 (.str x) = true) (h : sh n d) : sh (n + 1) (.tuple [.str x, d]) := sh_tup fun y hy => by
  simp only [List.mem_cons, List.not_mem_nil, or_false] at hy
  rcases hy with rfl | rfl
  · exact ⟨hx, Nat.zero_le _⟩
  · exact h
theorem sh_told {d : PyData} (h : sh 7 d) : sh 8 (.tuple [.str "told", d]) := sh_two (by decide +kernel) h
theorem sh_ref {d : PyData} (h : sh 7 d) : sh 8 (.tuple [.str "refused", d]) := sh_two (by decide +kernel) h
theorem ord_idx_at {w s m k : Nat} (hw : 0 < w) (hm : m ≤ tn w s) (hk : k < m) : (ordL w s m).idxOf k < m ∧ (ordL w s m).getD ((ordL w s m).idxOf k) 0 = k := by
  have h1 : (ordL w s m).idxOf k < (ordL w s m).length := List.idxOf_lt_length_of_mem ((ordL_mem hw hm).mpr hk)
  have h2 := ordL_len hw hm
  refine ⟨by omega, ?_⟩
  rw [List.getD_eq_getElem?_getD, List.getElem?_eq_getElem h1]
  exact List.getElem_idxOf h1
section
variable {X : Cx} {a b c o e : Expr} {es : List Expr} {E : En} {O : Own} {pos p pos' p' apos : Pos}
/-- xs.index(k), xs a list of numbers -/
theorem x_indexLN {ns : List Nat} {k : Nat} (ha : EX X a E O (vL (ns.map nD))) (hb : EX X b E O (vI (k : Nat))) (hk : k ∈ ns) (hu : X.A.units + 65 < cLine) (hbase : attributeBase a "index" X.env (eval a X.env) = eval a X.env := by rfl)
    (hfew : ((backTo pos (starEach [b] X.env)).all (fun x => !x.1) && (backToKw pos (keywordEach [] X.env)).all (fun x => x.1.isSome)
      && decide (([b] : List Expr).length + ([] : List Keyword).length + (if ([] : List Keyword).isEmpty then 0 else 1) < 30)) = true := by rfl)
    (hline : (p.endLine == pos.line) = true := by rfl) (hs : starEach [b] X.env = (false, eval b X.env) :: starEach [] X.env := by rfl) (hplain : (backTo pos (starEach [] X.env)).any (·.1) = false := by rfl) :
    EX X (.Call (.Attribute a "index" p) [b] [] pos) E O (vI (ns.idxOf k : Nat)) := by
  have h1 := List.idxOf_lt_length_of_mem hk
  refine x_indexL (z := nD k) ha hb (shaped_of (n := 8) (sh_natl ns) (by decide)) rfl ?_ ?_ ?_ hu hbase hfew hline hs hplain
  · rw [List.getElem?_map, List.getElem?_eq_getElem h1, List.getElem_idxOf h1]
    rfl
  · show ((k : Int) == (k : Int)) = true
    exact beq_self_eq_true _
  · intro m z hm hz
    have hl : m < ns.length := by omega
    rw [List.getElem?_map, List.getElem?_eq_getElem hl] at hz
    cases hz
    show (((ns[m] : Nat) : Int) == (k : Int)) = false
    rw [beq_natC]
    exact List.not_of_lt_findIdx (p := (· == k)) hm
end
end Py
namespace Py
open PySem PySem.Spec PyProof.Rows L2 TL
/-! ### texts -/
section
variable {X : Cx} {a b c o e tg iter : Expr} {es : List Expr} {E : En} {O : Own} {pos p pos' p' apos : Pos}
theorem dec_strW (x y : Str) : decide (V.str x = V.str y) = decide (x = y) := decide_eq_decide.mpr ⟨fun h => V.str.inj h, fun h => congrArg V.str h⟩
theorem c_eqW {x y : Str} (ha : EX X a E O (vS x)) (hb : EX X b E O (vS y)) : CX1 X .Eq a b E O (decide (x = y)) :=
  c_op op_eq ha hb fun u v H ok hx hy Q q => by
    obtain rfl := str_of hx
    obtain rfl := str_of hy
    refine ⟨rfl, ?_⟩
    rw [dec_strW]
    exact q _ H _ O ⟨rfl, rfl⟩ (.refl ok) (.bl _)
theorem c_neW {x y : Str} (ha : EX X a E O (vS x)) (hb : EX X b E O (vS y)) : CX1 X .NotEq a b E O (!decide (x = y)) :=
  c_op op_ne ha hb fun u v H ok hx hy Q q => by
    obtain rfl := str_of hx
    obtain rfl := str_of hy
    refine ⟨rfl, ?_⟩
    rw [dec_strW]
    exact q _ H _ O ⟨rfl, rfl⟩ (.refl ok) (.bl _)
theorem x_catS {x y : Str} (ha : EX X a E O (vS x)) (hb : EX X b E O (vS y)) (hz : x.length + y.length ≤ 100000) : EX X (.BinOp a .Add b pos) E O (vS (x ++ y)) :=
  x_op (pe_op op_add_str WE.pe WE.pe) ha hb fun u v H ok hx hy Q q => by
    obtain rfl := str_of hx
    obtain rfl := str_of hy
    exact ⟨x, y, rfl, rfl, Nat.le_trans hz (by decide), q _ H _ O ⟨rfl, rfl⟩ (.refl ok) (.str _)⟩
theorem x_lenS' {x : Str} (hm : X.mg "len" = none) (ha : EX X a E O (vS x)) (hz : x.length ≤ 100000) (hg : Gl X "len" := by rfl) (hs : starEach [a] X.env = (false, eval a X.env) :: starEach [] X.env := by rfl) (hpl : (backTo pos (starEach [] X.env)).any (·.1) = false := by rfl) : EX X (.Call (.Name "len" p) [a] [] pos) E O (vI (x.length : Nat)) :=
  g_cb call_len_str hg hm PySem.boot_len (a_cons ha a_nil hs) (fun vs H ok hvs Q k => by
    cases hvs with
    | cons z1 z2 =>
      cases z2
      obtain rfl := str_of z1
      exact ⟨x, rfl, Nat.le_trans hz (by decide), k _ H _ O ⟨rfl, rfl⟩ (.refl ok) (.int _)⟩) (by decide) (by decide) hs hpl
theorem x_ixS' {x : Str} {i : Int} {c : Nat} (ha : EX X a E O (vS x)) (hb : EX X b E O (vI i)) (h : atI (tl x) i = some c) (hz : x.length ≤ 100000) (hs : PlainIx b := by exact fun _ _ => rfl) : EX X (.Subscript a b pos) E O (vS ⟨#[c]⟩) :=
  x_op (pe_ix ix_str WE.pe WE.pe hs) ha hb fun u v H ok hx hy Q q => by
    obtain rfl := str_of hx
    exact ⟨x, i, c, rfl, int_of hy, Nat.le_trans hz (by decide), h, q _ H _ O ⟨rfl, rfl⟩ (.refl ok) (.str _)⟩
theorem x_slS {x : Str} {lo hi : Option Expr} {i j : Option Int} (ha : EX X a E O (vS x)) (hl : EO X E O lo i) (hh : EO X E O hi j) (hz : x.length ≤ 100000) : EX X (.Subscript a (.Slice lo hi none p) pos) E O (vS (cutS x i j)) :=
  x_sl sl_str ha hl hh fun u H ok hx Q q => by
    obtain rfl := str_of hx
    exact ⟨x, rfl, Nat.le_trans hz (by decide), q _ H _ O ⟨rfl, rfl⟩ (.refl ok) (.str _)⟩
theorem dpa_strs {W : Hp} : ∀ l : List Str, DqAll W (l.map V.str) (l.map .str)
  | [] => .nil
  | z :: l => .cons (.str z) (dpa_strs l)
theorem x_split {x y : Str} (ha : EX X a E O (vS x)) (hb : EX X b E O (vS y)) (hy : (y.length == 0) = false) (hz : x.length ≤ 100000) (hbase : attributeBase a "split" X.env (eval a X.env) = eval a X.env := by rfl)
    (hline : (p.endLine == pos.line) = true := by rfl) (hs : starEach [b] X.env = [(false, eval b X.env)] := by rfl) :
    EX X (.Call (.Attribute a "split" p) [b] [] pos) E O (vL ((Txt.split x y).map .str)) := fun σ H R Q k => we_of (pe_split WE.pe WE.pe hs hbase hline) (by
  refine ha σ H R _ fun v H1 r1 O1 ⟨e1, e2⟩ s1 z1 => ?_
  subst e1; subst e2
  obtain rfl := str_of z1
  refine ⟨⟨x, rfl⟩, ?_⟩
  refine hb σ H1 (R.step s1) _ fun u H2 r2 O2 ⟨e1, e2⟩ s2 z2 => ?_
  subst e1; subst e2
  obtain rfl := str_of z2
  refine ⟨x, y, rfl, rfl, hy, Nat.le_trans (Nat.add_le_add_right hz 2) (by decide), fun q hq => ?_⟩
  have s3 := Stp.laid (o := .lst ((Txt.split x y).map V.str)) s2.ok hq
  exact k _ _ _ _ ⟨rfl, rfl⟩ ((s1.trans s2).trans s3) (.lst (vis_laid s2.ok hq) (dpa_strs _)))
theorem strs_of {W : Hp} : ∀ {ys : List Str} {vs : List V}, DqAll W vs (ys.map .str) → vs = ys.map V.str
  | [], vs, h => by cases h; rfl
  | y :: ys, vs, h => by
    cases h with
    | cons h1 h2 =>
      cases h1
      rw [strs_of h2]
      rfl
theorem x_join {x : Str} {ys : List Str} (ha : EX X a E O (vS x)) (hb : EX X b E O (vL (ys.map .str))) (hz : (ys.map (·.length)).sum + ys.length * x.length ≤ 100000) (hbase : attributeBase a "join" X.env (eval a X.env) = eval a X.env := by rfl)
    (hline : (p.endLine == pos.line) = true := by rfl) (hs : starEach [b] X.env = [(false, eval b X.env)] := by rfl) :
    EX X (.Call (.Attribute a "join" p) [b] [] pos) E O (vS (Txt.join x ys)) := fun σ H R Q k => we_of (pe_join WE.pe WE.pe hs hbase hline) (by
  refine ha σ H R _ fun v H1 r1 O1 ⟨e1, e2⟩ s1 z1 => ?_
  subst e1; subst e2
  obtain rfl := str_of z1
  refine ⟨⟨x, rfl⟩, ?_⟩
  refine hb σ H1 (R.step s1) _ fun u H2 r2 O2 ⟨e1, e2⟩ s2 z2 => ?_
  subst e1; subst e2
  obtain ⟨q, vs, rfl, h1, h2⟩ := lst_of z2
  obtain rfl := strs_of h2
  exact ⟨x, q, ys, rfl, rfl, .inl (SqL.of (vis_sub _ _ _ _ h1)), Nat.le_trans hz (by decide), k _ H2 _ _ ⟨rfl, rfl⟩ (s1.trans s2) (.str _)⟩)
/-- one sign in a text -/
theorem c_inS {c : Nat} {z : Str} (ha : EX X a E O (vS ⟨#[c]⟩)) (hb : EX X b E O (vS z)) : CX1 X .In a b E O (decide (c ∈ tl z)) :=
  c_op op_in_sign ha hb fun u v H ok hx hy Q q => by
    obtain rfl := str_of hx
    obtain rfl := str_of hy
    exact ⟨c, z, rfl, rfl, q _ H _ O ⟨rfl, rfl⟩ (.refl ok) (.bl _)⟩
/-- x <= y <= z of texts -/
theorem t_chainS {x y z : Str} (ha : EX X a E O (vS x)) (hb : EX X b E O (vS y)) (hc : EX X c E O (vS z)) (hm : lastMarks [.LtE, .LtE] [b, c] = false := by with_unfolding_all rfl) : ET X (.Compare a [.LtE, .LtE] [b, c] pos) E O (!decide (tl y < tl x) && !decide (tl z < tl y)) := fun σ H R Q q => wt_of (pt_chain op_le_str op_le_str WE.pe WE.pe WE.pe hm) (by
  refine ha σ H R _ fun u1 H1 r1 O1 ⟨e1, e2⟩ s1 z1 => ?_
  subst e1; subst e2
  obtain rfl := str_of z1
  refine hb σ H1 (R.step s1) _ fun u2 H2 r2 O2 ⟨e1, e2⟩ s2 z2 => ?_
  subst e1; subst e2
  obtain rfl := str_of z2
  refine ⟨x, y, rfl, rfl, !decide (tl y < tl x), rfl, ?_⟩
  cases hk : decide (tl y < tl x) with
  | true =>
    rw [if_neg (by simp)]
    exact ⟨false, rfl, q _ H2 _ ⟨by rw [hk]; rfl, rfl⟩ (s1.trans s2)⟩
  | false =>
    rw [if_pos (by simp)]
    refine hc σ H2 (R.step (s1.trans s2)) _ fun u3 H3 r3 O3 ⟨e1, e2⟩ s3 z3 => ?_
    subst e1; subst e2
    obtain rfl := str_of z3
    exact ⟨y, z, rfl, rfl, _, rfl, q _ H3 _ ⟨by rw [hk]; rfl, rfl⟩ ((s1.trans s2).trans s3)⟩)
theorem x_intS {x : Str} {n : Int} (hm : X.mg "int" = none) (ha : EX X a E O (vS x)) (h : intText? x = some n) (hz : x.length ≤ 640) (hg : Gl X "int" := by rfl) (hs : starEach [a] X.env = (false, eval a X.env) :: starEach [] X.env := by rfl) (hpl : (backTo pos (starEach [] X.env)).any (·.1) = false := by rfl) : EX X (.Call (.Name "int" p) [a] [] pos) E O (vI n) :=
  g_ct call_int_str hg hm PyProof.Rows.boot_int (a_cons ha a_nil hs) (fun vs H ok hvs Q k => by
    cases hvs with
    | cons z1 z2 =>
      cases z2
      obtain rfl := str_of z1
      exact ⟨x, n, rfl, h, hz, k _ H _ O ⟨rfl, rfl⟩ (.refl ok) (.int _)⟩) (by decide) (by decide) hs hpl
theorem x_intB {k : Bool} (hm : X.mg "int" = none) (ha : EX X a E O (vB k)) (hg : Gl X "int" := by rfl) (hs : starEach [a] X.env = (false, eval a X.env) :: starEach [] X.env := by rfl) (hpl : (backTo pos (starEach [] X.env)).any (·.1) = false := by rfl) : EX X (.Call (.Name "int" p) [a] [] pos) E O (vI (((if k then 1 else 0 : Nat)) : Int)) :=
  g_ct call_int1 hg hm PyProof.Rows.boot_int (a_cons ha a_nil hs) (fun vs H ok hvs Q kk => by
    cases hvs with
    | cons z1 z2 =>
      cases z2
      obtain rfl := bl_of z1
      refine .inr ⟨k, rfl, ?_⟩
      have e : (if k then 1 else 0 : Int) = ((if k then 1 else 0 : Nat) : Int) := by cases k <;> rfl
      rw [e]
      exact kk _ H _ O ⟨rfl, rfl⟩ (.refl ok) (.int _)) (by decide) (by decide) hs hpl
theorem bls_of {W : Hp} : ∀ {ys : List Bool} {vs : List V}, DqAll W vs (ys.map .bool) → vs = ys.map V.bl
  | [], vs, h => by cases h; rfl
  | y :: ys, vs, h => by
    cases h with
    | cons h1 h2 =>
      cases h1
      rw [bls_of h2]
      rfl
theorem x_all {bs : List Bool} (hm : X.mg "all" = none) (ha : EX X a E O (vL (bs.map .bool))) (hg : Gl X "all" := by rfl) (hc : X.calm = true := by rfl) (hs : starEach [a] X.env = (false, eval a X.env) :: starEach [] X.env := by rfl) (hpl : (backTo pos (starEach [] X.env)).any (·.1) = false := by rfl) : EX X (.Call (.Name "all" p) [a] [] pos) E O (vB (bs.all id)) :=
  g_cb (cr_all hc) hg hm (by decide +kernel) (a_cons ha a_nil hs) (fun vs H ok hvs Q k => by
    cases hvs with
    | cons z1 z2 =>
      cases z2
      obtain ⟨q, vs, rfl, h1, h2⟩ := lst_of z1
      obtain rfl := bls_of h2
      exact ⟨q, bs, rfl, SqL.of (vis_sub _ _ _ _ h1), k _ H _ O ⟨rfl, rfl⟩ (.refl ok) (.bl _)⟩) (by decide) (by decide) hs hpl
theorem it_str {x : Str} (ha : EX X iter E O (vS x)) : IT X tg iter E O (List.range x.length) (fun i => vS (chS x i)) := ⟨_, pi_str WE.pe, fun σ H R Q q => by
  refine ha σ H R _ fun v H1 r O1 ⟨e1, e2⟩ s z => ?_
  subst e1; subst e2
  obtain rfl := str_of z
  refine ⟨x, rfl, q _ H1 s ⟨fun i O' H' s1 hi => (by rw [List.length_range] at hi; exact hi), fun i O' H' y H2 s1 hi w => ?_, fun O' H' s1 => by rw [List.length_range]; exact Nat.le_refl _⟩⟩
  obtain ⟨rfl, c, h1, rfl⟩ := w
  refine ⟨.refl s1.ok, ?_⟩
  rw [List.getElem_range]
  have e : chS x i = ⟨#[c]⟩ := by
    unfold chS
    rw [List.getD_eq_getElem?_getD, Array.getElem?_toList, h1]
    rfl
  rw [e]
  exact .str _⟩
/-- a text backward -/
def revS (x : Str) : Str := ⟨(((Builtin.Str.strSliceIndices none none (-1) x.length).filterMap (x.cps[·]?)).toArray)⟩
theorem ix_back (n : Nat) : Builtin.Str.strSliceIndices none none (-1) n = (List.range n).map fun k => n - 1 - k := by
  simp only [Builtin.Str.strSliceIndices, sliceRange, show ¬ ((-1 : Int) > 0) from by decide, if_false]
  by_cases h : n = 0
  · subst h
    rfl
  · have h1 : (-1 : Int) < (n : Int) - 1 := by omega
    have e : (((n : Int) - 1 - -1 - -1 - 1) / - -1).toNat = n := by
      have : ((n : Int) - 1 - -1 - -1 - 1) = n := by omega
      rw [this]
      simp
    simp only [h1, if_true, e]
    refine List.map_congr_left fun k hk => ?_
    have := List.mem_range.mp hk
    omega
theorem revS_ok (x : Str) : (revS x).length ≤ x.length ∧ ∀ c ∈ tl (revS x), c ∈ tl x := by
  have e : tl (revS x) = (Builtin.Str.strSliceIndices none none (-1) x.length).filterMap (x.cps[·]?) := rfl
  refine ⟨?_, fun c hc => ?_⟩
  · rw [len_tl, e, ix_back]
    refine Nat.le_trans (List.length_filterMap_le _ _) ?_
    rw [List.length_map, List.length_range]
    exact Nat.le_refl _
  · rw [e] at hc
    obtain ⟨i, _, hi⟩ := List.mem_filterMap.mp hc
    exact Array.mem_toList_iff.mpr (Array.mem_of_getElem? hi)
def tRevS (te : TE) : TE := fun σ H Q => te σ H fun x H1 => ∃ z : Str, x = .str z ∧ z.length ≤ sizeLine ∧ Q (.str (revS z)) H1
theorem pe_revS {te : TE} {k : Nat} {p1 p2 p3 : Pos} (he : PE X e te) : PE X (.Subscript e (.Slice none none (some (.UnaryOp .USub (.Constant (.int 1) k p1) p2)) p3) pos) (tRevS te) := by
  refine ⟨fun pins s σ H Q I h => Subscript_ (thn (he.run pins s σ H _ I h) ?_)⟩
  rintro v s1 ⟨x, H1, I1, r1, z, rfl, hz, q⟩
  obtain ⟨t, rfl⟩ : ∃ t, v = Value.str z t := r1
  have hst : PO X (some (.UnaryOp .USub (.Constant (.int 1) k p1) p2)) (tPart (tUn (rU fun i => .int (-i)) (tC (.int 1)))) := po_some (pe_un un_neg pe_int)
  refine wpAny_Slice (thn (po_none.run pins s1 σ H1 (fun o H2 => o = none ∧ H2 = H1) I1 ⟨rfl, rfl⟩) ?_)
  rintro vl s2 ⟨l, H2, I2, pl, rfl, rfl⟩
  refine thn (po_none.run pins s2 σ H2 (fun o H3 => o = none ∧ H3 = H2) I2 ⟨rfl, rfl⟩) ?_
  rintro vu s3 ⟨u, H3, I3, pu, rfl, rfl⟩
  refine thn (hst.run pins s3 σ H3 (fun o H4 => o = some (-1) ∧ H4 = H3) I3 ⟨1, rfl, -1, rfl, rfl, rfl⟩) ?_
  rintro vs s4 ⟨o, H4, I4, ps, rfl, rfl⟩
  have I5 : Inv X pins σ H4 { s4 with heap := s4.heap.push { cls := .type "slice", data := .fields #[vl, vu, vs] } } := I4.kept (t' := s4.toks) fun b ob q => Heap.get?_push_of_some _ q
  obtain ⟨l0, rfl, e1⟩ := IsPart.raw pl
  obtain ⟨u0, rfl, e2⟩ := IsPart.raw pu
  obtain ⟨k0, rfl, e3⟩ := IsPart.raw ps
  show wpAny (model X.prog X.w) X.A (subscriptTail e (.Slice none none (some (.UnaryOp .USub (.Constant (.int 1) k p1) p2)) p3) (.str z t) (.ref s4.heap.objs.size)) (EP X pins σ Q) X.xe _
  refine tail_any (ops := [.str z t, .ref s4.heap.objs.size]) (typeIs_str _ _ _) F.slot_str_getitem.lookup ?_ (by with_unfolding_all rfl)
  refine wpAny_getItem_str_slice (l := l0) (u := u0) (st := k0) ⟨_, Heap.get?_push_size _ rfl, rfl, rfl⟩ (by rw [e3]; rfl) ?_
  have hm : sliceMade z t l0 u0 k0 = .str (revS z) := by
    unfold sliceMade slicePicked revS
    rw [e1, e2, e3]
    rfl
  rw [hm]
  exact ⟨Nat.le_trans (revS_ok z).1 hz, .str _, H4, I5.tok _, ⟨_, rfl⟩, q⟩
theorem x_revS {x : Str} {k : Nat} {p1 p2 p3 : Pos} (ha : EX X a E O (vS x)) (hz : x.length ≤ 100000) : EX X (.Subscript a (.Slice none none (some (.UnaryOp .USub (.Constant (.int 1) k p1) p2)) p3) pos) E O (vS (revS x)) := fun σ H R Q kk => we_of (pe_revS WE.pe) (by
  refine ha σ H R _ fun v H1 r O1 ⟨e1, e2⟩ s z => ?_
  subst e1; subst e2
  exact ⟨x, str_of z, Nat.le_trans hz (by decide), kk _ H1 _ _ ⟨rfl, rfl⟩ s (.str _)⟩)
theorem x_revL {ds : List PyData} {k : Nat} {p1 p2 p3 : Pos} (ha : EX X a E O (vL ds)) : EX X (.Subscript a (.Slice none none (some (.UnaryOp .USub (.Constant (.int 1) k p1) p2)) p3) pos) E O (vL ds.reverse) := fun σ H R Q kk => we_of (pe_revL WE.pe) (by
  refine ha σ H R _ fun v H1 r O1 ⟨e1, e2⟩ s z => ?_
  subst e1; subst e2
  obtain ⟨l, vs, rfl, h1, h2⟩ := lst_of z
  refine ⟨l, vs, rfl, SqL.of (vis_sub _ _ _ _ h1), fun q hq => ?_⟩
  have s2 := Stp.laid (o := .lst vs.reverse) s.ok hq
  exact kk _ _ _ _ ⟨rfl, rfl⟩ (s.trans s2) (.lst (vis_laid s.ok hq) (dpAll_sub s2.vis _ _ (dpa_rev h2))))
/-- None in a tuple of numbers and None -/
theorem oD_flat {W : Hp} : ∀ {ds : List (Option Nat)} {vs : List V}, DqAll W vs (ds.map oD) → vs.all flatV = true ∧ inV .non vs = ds.any Option.isNone
  | [], _, h => by cases h; exact ⟨rfl, rfl⟩
  | none :: ds, _, h => by
    cases h with
    | cons h3 h4 =>
      cases h3
      obtain ⟨e1, e2⟩ := oD_flat h4
      exact ⟨by rw [List.all_cons, e1]; rfl, rfl⟩
  | some n :: ds, _, h => by
    cases h with
    | cons h3 h4 =>
      cases h3
      obtain ⟨e1, e2⟩ := oD_flat h4
      refine ⟨by rw [List.all_cons, e1]; rfl, ?_⟩
      rw [List.any_cons, ← e2]
      rfl
theorem c_inN {ds : List (Option Nat)} (ha : EX X a E O vN) (hb : EX X b E O (vT (ds.map oD))) : CX1 X .In a b E O (ds.any Option.isNone) :=
  c_op op_in_seq ha hb fun u v H ok hx hy Q q => by
    obtain rfl := non_of hx
    obtain ⟨l, vs, rfl, h1, h2⟩ := tup_of hy
    obtain ⟨e1, e2⟩ := oD_flat h2
    refine ⟨l, vs, rfl, .inr (.inl (rd_sub (vis_sub _ _) h1)), rfl, e1, ?_⟩
    show Q (.bl (if false = true then _ else inV .non vs)) H
    rw [if_neg Bool.false_ne_true, e2]
    exact q _ H _ O ⟨rfl, rfl⟩ (.refl ok) (.bl _)
theorem x_globS {x : Str} {y : Str} (hm : ∃ t, X.mg x = some (.str y t)) (hg : Gl X x := by rfl) (hd : (x == ("__debug__" : Str)) = false := by decide) : EX X (.Name x pos) E O (vS y) := by
  obtain ⟨t, h⟩ := hm
  exact x_glob (v := .str y) hg h ⟨t, rfl⟩ (fun _ => .str _) hd
/-! what may raise, kept -/
theorem sx_set {D : PD} {Ξ : XI} (i : Nat) {x : Str} {Φ : SV → Own → Prop} (hN : X.N.Nodup) (he : EGX X e E O Φ Ξ) (h : ∀ r O', Φ r O' → D.nx (E.set i (some r)) O') (hi : X.N[i]? = some x := by rfl) (hx : Loc X.env.scope x := by first | exact Or.inl rfl | exact Or.inr rfl)
    (hs : swapsWith e (some (.Name x pos')) pos.line X.env = pure false := by rfl) (hf : X.fn x = true ∨ X.env.scope.names.lookup x = some .local := by first | exact .inl rfl | exact .inr rfl | assumption) : SGX X (.Assign [.Name x pos'] e pos) E O D Ξ := fun Ex tk σ H R D' r rx => ws_of (ps_set hN hi hx WE.pe hs hf) (by
  refine he Ex tk σ H R _ (fun v H1 r1 O1 f s z => ?_) rx
  exact r.nx _ H1 _ O1 (h r1 O1 f) s ((R.step s).set i z))
theorem gx_tup3 {e1 e2 e3 : Expr} {k : Nat} {Ξ : XI} {P1 P2 P3 : PyData → Prop} (h1 : EGX X e1 E O (fun r O' => O' = O ∧ ∃ d, r = .d d ∧ P1 d) Ξ) (h2 : ∀ d, P1 d → EGX X e2 E O (fun r O' => O' = O ∧ ∃ d, r = .d d ∧ P2 d) Ξ) (h3 : ∀ d d', P1 d → P2 d' → EGX X e3 E O (fun r O' => O' = O ∧ ∃ d, r = .d d ∧ P3 d) Ξ)
    (hs1 : starEach [e1, e2, e3] X.env = (false, eval e1 X.env) :: starEach [e2, e3] X.env := by rfl) (hs2 : starEach [e2, e3] X.env = (false, eval e2 X.env) :: starEach [e3] X.env := by rfl) (hs3 : starEach [e3] X.env = (false, eval e3 X.env) :: starEach [] X.env := by rfl) :
    EGX X (.Tuple [e1, e2, e3] k pos) E O (fun r O' => O' = O ∧ ∃ d1 d2 d3, r = vT [d1, d2, d3] ∧ P1 d1 ∧ P2 d2 ∧ P3 d3) Ξ := fun Ex tk σ H R Q q qx => we_of (pe_tup (pa_cons WE.pe (pa_cons WE.pe (pa_cons WE.pe pa_nil hs3) hs2) hs1)) (by
  refine h1 Ex tk σ H R _ (fun v1 H1 r1 O1 ⟨o1, d1, w1, p1⟩ s1 z1 => ?_) qx
  subst o1; subst w1
  refine h2 d1 p1 Ex tk σ H1 (R.step s1) _ (fun v2 H2 r2 O2 ⟨o2, d2, w2, p2⟩ s2 z2 => ?_) (qx.step s1)
  subst o2; subst w2
  refine h3 d1 d2 p1 p2 Ex tk σ H2 (R.step (s1.trans s2)) _ (fun v3 H3 r3 O3 ⟨o3, d3, w3, p3⟩ s3 z3 => ?_) (qx.step (s1.trans s2))
  subst o3; subst w3
  refine ⟨by show 3 ≤ _; decide, fun q' hq => ?_⟩
  have s4 := Stp.laid (o := .tup [v1, v2, v3]) s3.ok hq
  exact q _ _ _ _ ⟨rfl, d1, d2, d3, rfl, p1, p2, p3⟩ (((s1.trans s2).trans s3).trans s4) (.tup (.inl (vis_laid s3.ok hq)) (.cons (dp_sub ((s2.trans s3).trans s4).vis _ _ z1) (.cons (dp_sub (s3.trans s4).vis _ _ z2) (.cons (dp_sub s4.vis _ _ z3) .nil)))))
end
end Py
namespace Py
open PySem PySem.Spec PyProof.Rows L2 TL Rg
/-! ### k02: rows as texts -/
abbrev sN (n : Nat) : Str := Str.ofString (toString ((n : Nat) : Int))
def writ (w s m : Nat) : Str := sN m ++ " points by " ++ sN s ++ " on " ++ sN w
structure Row1 (w s m : Nat) : Prop where
  w2 : 2 ≤ w
  w1 : w ≤ 120
  s0 : 1 ≤ s
  sw : s < w
  m0 : 1 ≤ m
  m1 : m ≤ tn w s
theorem Row1.m2 {w s m : Nat} (h : Row1 w s m) : m ≤ 120 := Nat.le_trans h.m1 (Nat.le_trans (tn_le w s) h.w1)
theorem isRow_nat (w s m : Nat) : isRowD (rowD w s m) = true ↔ Row1 w s m := by
  show ((true && ((decide ((2 : Int) ≤ (w : Int)) && decide ((w : Int) ≤ 120)) && ((decide ((1 : Int) ≤ (s : Int)) && decide ((s : Int) ≤ (w : Int) - 1)) && (decide ((1 : Int) ≤ (m : Int)) && decide ((m : Int) ≤ (tn w s : Nat)))))) = true) ↔ _
  simp only [Bool.true_and, Bool.and_eq_true, decide_eq_true_eq]
  constructor
  · rintro ⟨⟨h1, h2⟩, ⟨h3, h4⟩, h5, h6⟩
    exact ⟨by omega, by omega, by omega, by omega, by omega, by omega⟩
  · rintro ⟨h1, h2, h3, h4, h5, h6⟩
    exact ⟨⟨by omega, by omega⟩, ⟨by omega, by omega⟩, by omega, by omega⟩
theorem len_sN {n : Nat} (h : n ≤ 999) : 1 ≤ (sN n).length ∧ (sN n).length ≤ 3 := by
  rw [len_tl, tl_num]
  refine ⟨?_, numL_len (by decide) (by omega)⟩
  have := numL_ne n
  cases e : numL n with
  | nil => exact absurd e this
  | cons _ _ => exact Nat.le_add_left _ _
def wds (w s m : Nat) : List Str := [sN m, "points", "by", sN s, "on", sN w]
theorem writ_join (w s m : Nat) : writ w s m = Txt.join " " (wds w s m) := by
  apply ext_tl
  rw [join_eq, tl_join]
  unfold writ wds
  rw [tl_append, tl_append, tl_append, tl_append]
  show _ = tl (sN m) ++ (tl " " ++ (tl "points" ++ (tl " " ++ (tl "by" ++ (tl " " ++ (tl (sN s) ++ (tl " " ++ (tl "on" ++ (tl " " ++ tl (sN w))))))))))
  have e1 : tl (" points by " : Str) = tl (" " : Str) ++ (tl ("points" : Str) ++ (tl (" " : Str) ++ (tl ("by" : Str) ++ tl (" " : Str)))) := by decide +kernel
  have e2 : tl (" on " : Str) = tl (" " : Str) ++ (tl ("on" : Str) ++ tl (" " : Str)) := by decide +kernel
  rw [e1, e2]
  simp only [List.append_assoc]
theorem sp_tl : tl (" " : Str) = [32] := by decide +kernel
theorem split_writ (w s m : Nat) : Txt.split (writ w s m) " " = wds w s m := by
  rw [writ_join]
  refine split_join (s := 32) (S := []) sp_tl (by decide +kernel) (by unfold wds; simp) fun p hp => ?_
  unfold wds at hp
  simp only [List.mem_cons, List.not_mem_nil, or_false] at hp
  rcases hp with rfl | rfl | rfl | rfl | rfl | rfl
  · rw [tl_num]; exact numL_free (.inl (by decide))
  · decide +kernel
  · decide +kernel
  · rw [tl_num]; exact numL_free (.inl (by decide))
  · decide +kernel
  · rw [tl_num]; exact numL_free (.inl (by decide))
theorem writ_len {w s m : Nat} (hw : w ≤ 999) (hs : s ≤ 999) (hm : m ≤ 999) : (writ w s m).length ≤ 24 := by
  have h1 := (len_sN hw).2
  have h2 := (len_sN hs).2
  have h3 := (len_sN hm).2
  have e1 : (" points by " : Str).length = 11 := by decide +kernel
  have e2 : (" on " : Str).length = 4 := by decide +kernel
  unfold writ
  rw [strLen_append, strLen_append, strLen_append, strLen_append]
  omega
/-! numbers -/
def isNum (x : Str) : Bool := decide (1 ≤ x.length) && (decide (x.length ≤ 3) && (tl x).all fun c => decide (48 ≤ c ∧ c ≤ 57))
def valS (x : Str) : Nat := NumText.digitsVal (tl x)
theorem isNum_iff {x : Str} : isNum x = true ↔ 1 ≤ x.length ∧ x.length ≤ 3 ∧ NumText.AllDigits (tl x) := by
  unfold isNum NumText.AllDigits
  rw [Bool.and_eq_true, Bool.and_eq_true, decide_eq_true_eq, decide_eq_true_eq, List.all_eq_true]
  simp only [decide_eq_true_eq]
theorem isNum_sN {n : Nat} (h : n ≤ 999) : isNum (sN n) = true := isNum_iff.mpr ⟨(len_sN h).1, (len_sN h).2, by rw [tl_num]; exact numL_digits n⟩
theorem valS_sN (n : Nat) : valS (sN n) = n := by
  unfold valS
  rw [tl_num]
  exact numL_val n
theorem numL_head : ∀ n : Nat, 1 ≤ n → (numL n).head? ≠ some 48 := fun n => by
  induction n using Nat.strongRecOn with
  | _ n ih =>
    intro h
    by_cases h2 : n < 10
    · rw [numL_lt h2]
      intro e
      have := Option.some.inj e
      omega
    · rw [numL_step (by omega)]
      have := ih (n / 10) (by omega) (by omega)
      cases e : numL (n / 10) with
      | nil => exact absurd e (numL_ne _)
      | cons a l =>
        rw [e] at this
        exact this
theorem head_sN {n : Nat} (h : 1 ≤ n) : (tl (sN n)).head? ≠ some 48 := by
  rw [tl_num]
  exact numL_head n h
theorem canon {x : Str} (h : isNum x = true) (h0 : (tl x).head? ≠ some 48) : sN (valS x) = x := by
  obtain ⟨h1, h2, h3⟩ := isNum_iff.mp h
  apply ext_tl
  rw [tl_num]
  unfold valS
  rw [len_tl] at h1 h2
  generalize tl x = l at h0 h1 h2 h3
  match l with
  | [] => simp at h1
  | [a] =>
    have ha := h3 a (by simp)
    show numL (0 * 10 + (a - 48)) = _
    rw [numL_lt (by omega)]
    congr 1
    omega
  | [a, b] =>
    have ha := h3 a (by simp)
    have hb := h3 b (by simp)
    have h0 : a ≠ 48 := fun z => h0 (by rw [z]; rfl)
    show numL ((0 * 10 + (a - 48)) * 10 + (b - 48)) = _
    rw [numL_step (by omega), numL_lt (by omega)]
    show [_, _] = _
    congr 1
    · omega
    · congr 1
      omega
  | [a, b, c] =>
    have ha := h3 a (by simp)
    have hb := h3 b (by simp)
    have hc := h3 c (by simp)
    have h0 : a ≠ 48 := fun z => h0 (by rw [z]; rfl)
    show numL (((0 * 10 + (a - 48)) * 10 + (b - 48)) * 10 + (c - 48)) = _
    rw [numL_step (by omega), numL_step (by omega), numL_lt (by omega)]
    show [_, _, _] = _
    congr 1
    · omega
    · congr 1
      · omega
      · congr 1
        omega
  | _ :: _ :: _ :: _ :: _ => simp at h2
theorem valS_le {x : Str} (h : isNum x = true) : valS x ≤ 999 := by
  obtain ⟨h1, h2, h3⟩ := isNum_iff.mp h
  unfold valS
  rw [len_tl] at h1 h2
  generalize tl x = l at h1 h2 h3
  match l with
  | [] => simp at h1
  | [a] =>
    have ha := h3 a (by simp)
    show 0 * 10 + (a - 48) ≤ 999
    omega
  | [a, b] =>
    have ha := h3 a (by simp)
    have hb := h3 b (by simp)
    show (0 * 10 + (a - 48)) * 10 + (b - 48) ≤ 999
    omega
  | [a, b, c] =>
    have ha := h3 a (by simp)
    have hb := h3 b (by simp)
    have hc := h3 c (by simp)
    show ((0 * 10 + (a - 48)) * 10 + (b - 48)) * 10 + (c - 48) ≤ 999
    omega
  | _ :: _ :: _ :: _ :: _ => simp at h2
theorem int_valS {x : Str} (h : isNum x = true) : intText? x = some ((valS x : Nat) : Int) := by
  obtain ⟨h1, h2, h3⟩ := isNum_iff.mp h
  exact intText_digits h3 (fun e => by
    have e : tl x = [] := e
    rw [len_tl, e] at h1
    simp at h1) (by omega)
theorem fig_mem (c : Nat) : c ∈ tl ("0123456789" : Str) ↔ 48 ≤ c ∧ c ≤ 57 := by
  have e : tl ("0123456789" : Str) = [48, 49, 50, 51, 52, 53, 54, 55, 56, 57] := by decide +kernel
  rw [e]
  simp only [List.mem_cons, List.not_mem_nil, or_false]
  omega
/-- what _law_number makes of a word -/
def lnum (x : Str) : Option Nat := if isNum x = true ∧ (tl x).head? ≠ some 48 then some (valS x) else none
theorem lnum_sN {n : Nat} (h : n ≤ 999) (h0 : 1 ≤ n) : lnum (sN n) = some n := by
  unfold lnum
  rw [if_pos ⟨isNum_sN h, head_sN h0⟩, valS_sN]
theorem lnum_some {x : Str} {n : Nat} (h : lnum x = some n) : x = sN n ∧ n ≤ 999 := by
  unfold lnum at h
  split at h
  · rename_i z
    cases h
    exact ⟨(canon z.1 z.2).symm, valS_le z.1⟩
  · cases h
/-! the parts of a text -/
theorem split_back (t : Str) : Txt.join " " (Txt.split t " ") = t := by
  rw [join_eq]
  exact StrLaws.join_split t " "
theorem split_ne (t : Str) : Txt.split t " " ≠ [] := fun e => by
  by_cases h : t = Str.empty
  · subst h
    revert e
    decide +kernel
  · have z := split_back t
    rw [e] at z
    exact h z.symm
theorem mem_joinL {S : List Nat} : ∀ {ps : List (List Nat)} {p : List Nat} {c : Nat}, p ∈ ps → c ∈ p → c ∈ joinL S ps
  | [q], p, c, h, hc => by
    rw [List.mem_singleton] at h
    subst h
    exact hc
  | q :: r :: ps, p, c, h, hc => by
    show c ∈ q ++ (S ++ joinL S (r :: ps))
    rcases List.mem_cons.mp h with rfl | h
    · exact List.mem_append_left _ hc
    · exact List.mem_append_right _ (List.mem_append_right _ (mem_joinL h hc))
theorem len_joinL : ∀ {ps : List (List Nat)}, ps ≠ [] → (joinL [32] ps).length + 1 = (ps.map List.length).sum + ps.length
  | [], h => absurd rfl h
  | [q], _ => by show q.length + 1 = q.length + 0 + 1; omega
  | q :: r :: ps, _ => by
    have ih := len_joinL (ps := r :: ps) (by simp)
    show (q ++ ([32] ++ joinL [32] (r :: ps))).length + 1 = _
    rw [List.length_append, List.length_append, List.map_cons, List.sum_cons, List.length_cons (a := q)]
    simp only [List.length_singleton]
    omega
theorem sub_joinL {S : List Nat} {P : Nat → Prop} (hS : ∀ c ∈ S, P c) : ∀ {ps : List (List Nat)}, (∀ p ∈ ps, ∀ c ∈ p, P c) → ∀ c ∈ joinL S ps, P c
  | [], _, c, hc => nomatch hc
  | [q], h, c, hc => h q (by simp) c hc
  | q :: r :: ps, h, c, hc => by
    have hc : c ∈ q ++ (S ++ joinL S (r :: ps)) := hc
    rcases List.mem_append.mp hc with z | z
    · exact h q (by simp) c z
    · rcases List.mem_append.mp z with z | z
      · exact hS c z
      · exact sub_joinL hS (fun p hp => h p (List.mem_cons_of_mem _ hp)) c z
def okC (t : Str) : Prop := ∀ c ∈ tl t, c < 0x110000
theorem word_ok {t x : Str} (h : okC t) (hx : x ∈ Txt.split t " ") : okC x := fun c hc => h c (by
  have e := split_back t
  rw [join_eq] at e
  rw [← e, tl_join]
  exact mem_joinL (List.mem_map_of_mem hx) hc)
theorem lens_eq (l : List Str) : (l.map fun x => x.length) = (l.map tl).map List.length := by
  rw [List.map_map]
  exact List.map_congr_left fun x _ => len_tl x
theorem split_sum (t : Str) : ((Txt.split t " ").map fun x => x.length).sum + (Txt.split t " ").length = t.length + 1 := by
  have e := split_back t
  rw [join_eq] at e
  have h := len_joinL (ps := (Txt.split t " ").map tl) (fun z => split_ne t (List.map_eq_nil_iff.mp z))
  rw [← sp_tl, ← tl_join, e, ← len_tl, ← lens_eq, List.length_map] at h
  omega
theorem mem_sum {l : List Str} {x : Str} (h : x ∈ l) : x.length ≤ (l.map fun x => x.length).sum := by
  induction l with
  | nil => cases h
  | cons y l ih =>
    rw [List.map_cons, List.sum_cons]
    rcases List.mem_cons.mp h with rfl | h
    · omega
    · have := ih h
      omega
theorem word_len {t x : Str} (hx : x ∈ Txt.split t " ") : x.length ≤ t.length := by
  have h1 := split_sum t
  have h2 := mem_sum hx
  have h3 : 1 ≤ (Txt.split t " ").length := List.length_pos_of_mem hx
  omega
/-- the words in another order -/
theorem turn_words {t : Str} (k : Nat) (h : okC t) : let l := Txt.split t " "; let l' := l.take k ++ ((l.drop k).take 2).reverse ++ l.drop (k + 2);
    (l'.map fun x => x.length).sum + l'.length = t.length + 1 ∧ (Txt.join " " l').length ≤ t.length + 1 ∧ okC (Txt.join " " l') := by
  intro l l'
  have hp : l'.Perm l := by
    have e : l = l.take k ++ ((l.drop k).take 2 ++ l.drop (k + 2)) := by
      rw [← List.drop_drop, List.take_append_drop, List.take_append_drop]
    show (l.take k ++ ((l.drop k).take 2).reverse ++ l.drop (k + 2)).Perm l
    conv => rhs; rw [e]
    rw [List.append_assoc]
    exact List.Perm.append_left _ (List.Perm.append_right _ (List.reverse_perm _))
  have hs : (l'.map fun x => x.length).sum + l'.length = t.length + 1 := by
    rw [(hp.map fun x : Str => x.length).sum_nat, hp.length_eq]
    exact split_sum t
  refine ⟨hs, ?_, ?_⟩
  · rw [join_eq, len_tl, tl_join, sp_tl]
    by_cases hn : l' = []
    · rw [hn]
      exact Nat.zero_le _
    · have := len_joinL (ps := l'.map tl) (fun z => hn (List.map_eq_nil_iff.mp z))
      rw [← lens_eq, List.length_map] at this
      omega
  · intro c hc
    rw [join_eq, tl_join, sp_tl] at hc
    refine sub_joinL (P := fun c => c < 0x110000) (fun c hc => by rw [List.mem_singleton.mp hc]; decide) (fun p hp' c hc => ?_) c hc
    obtain ⟨x, hx, rfl⟩ := List.mem_map.mp hp'
    exact word_ok h (hp.mem_iff.mp hx) c hc
theorem cat_ok {x y : Str} (h1 : okC x) (h2 : okC y) : okC (x ++ y) := fun c hc => by
  rw [tl_append] at hc
  exact (List.mem_append.mp hc).elim (h1 c) (h2 c)
theorem cut_ok {x : Str} (lo hi : Option Int) (h : okC x) : okC (cutS x lo hi) := fun c hc => h c (List.mem_of_mem_drop (List.mem_of_mem_take hc))
theorem rev_ok {x : Str} (h : okC x) : okC (revS x) := fun c hc => h c ((revS_ok x).2 c hc)
theorem cat_len (x y : Str) : (x ++ y).length = x.length + y.length := strLen_append x y
theorem cutS_len (x : Str) (lo hi : Option Int) : (cutS x lo hi).length = min (HT.sIx x.length x.length hi - HT.sIx x.length 0 lo) (x.length - HT.sIx x.length 0 lo) := by
  rw [len_tl]
  show (((tl x).drop (HT.sIx x.length 0 lo)).take (HT.sIx x.length x.length hi - HT.sIx x.length 0 lo)).length = _
  rw [List.length_take, List.length_drop, ← len_tl]
theorem cl_to (x : Str) (k : Nat) : (cutS x none (some (k : Int))).length ≤ min k x.length := by
  have e : HT.sIx x.length 0 none = 0 := rfl
  rw [cutS_len, HT.sIx_nat, e]
  omega
theorem cl_from (x : Str) (k : Nat) : (cutS x (some (k : Int)) none).length ≤ x.length - k := by
  have e : HT.sIx x.length x.length none = x.length := rfl
  rw [cutS_len, HT.sIx_nat, e]
  omega
theorem cl_both (x : Str) (a b : Nat) : (cutS x (some (a : Int)) (some (b : Int))).length ≤ min (b - a) (x.length - a) := by
  rw [cutS_len, HT.sIx_nat, HT.sIx_nat]
  omega
/-! drawings -/
def drS (w : Nat) (p : Nat → Bool) : Str := Txt.join "" ((List.range w).map fun h => if p h = true then ("o" : Str) else ".")
theorem joinL_nil : ∀ ps : List (List Nat), joinL [] ps = ps.flatten
  | [] => rfl
  | [q] => by show q = q ++ []; rw [List.append_nil]
  | q :: r :: ps => by
    show q ++ ([] ++ joinL [] (r :: ps)) = _
    rw [joinL_nil (r :: ps), List.nil_append]
    rfl
theorem tl_drS (w : Nat) (p : Nat → Bool) : tl (drS w p) = (List.range w).map fun h => if p h = true then 111 else 46 := by
  unfold drS
  have e0 : tl ("" : Str) = [] := by decide +kernel
  have e1 : tl ("o" : Str) = [111] := by decide +kernel
  have e2 : tl ("." : Str) = [46] := by decide +kernel
  rw [join_eq, tl_join, e0, joinL_nil, List.map_map]
  have e : ((List.range w).map (tl ∘ fun h => if p h = true then ("o" : Str) else ".")) = (List.range w).map fun h => [if p h = true then 111 else 46] := by
    apply List.map_congr_left
    intro h _
    show tl (if p h = true then ("o" : Str) else ".") = _
    by_cases hp : p h = true
    · rw [if_pos hp, if_pos hp, e1]
    · rw [if_neg hp, if_neg hp, e2]
  rw [e]
  generalize List.range w = l
  induction l with
  | nil => rfl
  | cons a l ih => rw [List.map_cons, List.flatten_cons, ih]; rfl
theorem drS_len (w : Nat) (p : Nat → Bool) : (drS w p).length = w := by rw [len_tl, tl_drS, List.length_map, List.length_range]
theorem drS_ch {w i : Nat} (p : Nat → Bool) (h : i < w) : chS (drS w p) i = if p i = true then "o" else "." := by
  have e : chS (drS w p) i = ⟨#[(tl (drS w p)).getD i 0]⟩ := rfl
  rw [e, tl_drS, List.getD_eq_getElem?_getD, List.getElem?_map, List.getElem?_range h]
  apply ext_tl
  show [if p i = true then 111 else 46] = _
  by_cases hp : p i = true
  · rw [if_pos hp, if_pos hp]; decide +kernel
  · rw [if_neg hp, if_neg hp]; decide +kernel
theorem drS_pt {w i : Nat} (p : Nat → Bool) (h : i < w) : decide (chS (drS w p) i = "o") = p i := by
  rw [drS_ch p h]
  cases hp : p i with
  | true => rw [if_pos rfl]; decide +kernel
  | false => rw [if_neg Bool.false_ne_true]; decide +kernel
theorem drS_sum (w : Nat) (p : Nat → Bool) : (((List.range w).map fun h => if p h = true then ("o" : Str) else ".").map (·.length)).sum = w := by
  rw [List.map_map]
  have e : ((List.range w).map ((fun x : Str => x.length) ∘ fun h => if p h = true then ("o" : Str) else ".")) = (List.range w).map fun _ => 1 := by
    apply List.map_congr_left
    intro h _
    show (if p h = true then ("o" : Str) else ".").length = 1
    by_cases hp : p h = true
    · rw [if_pos hp]; decide +kernel
    · rw [if_neg hp]; decide +kernel
  rw [e]
  have : ∀ l : List Nat, (l.map fun _ => 1).sum = l.length := fun l => by
    induction l with
    | nil => rfl
    | cons a l ih => rw [List.map_cons, List.sum_cons, ih, List.length_cons]; omega
  rw [this, List.length_range]
/-! the places of a row -/
def plcs (w s m : Nat) : List Nat := (List.range m).map (pl w s)
def onP (w s m : Nat) (h : Nat) : Bool := decide (h ∈ plcs w s m)
theorem plcs_sort {w s m : Nat} (hw : 0 < w) (hm : m ≤ tn w s) : ((List.range w).filter (onP w s m)).Perm (plcs w s m) ∧ ((List.range w).filter (onP w s m)).Pairwise (· < ·) := by
  have hs : ((List.range w).filter (onP w s m)).Pairwise (· < ·) := List.pairwise_lt_range.filter _
  refine ⟨?_, hs⟩
  have n1 : ((List.range w).filter (onP w s m)).Nodup := nodup_lt hs
  have n2 : (plcs w s m).Nodup := by
    unfold plcs
    refine List.nodup_iff_pairwise_ne.mpr (List.pairwise_map.mpr ?_)
    refine List.Pairwise.imp_of_mem (fun {a b} ha hb h e => ?_) (List.pairwise_lt_range (n := m))
    have ha := List.mem_range.mp ha
    have hb := List.mem_range.mp hb
    exact absurd (pl_inj' hw (by omega) (by omega) e) (by omega)
  refine (List.perm_ext_iff_of_nodup n1 n2).mpr fun x => ?_
  rw [List.mem_filter, List.mem_range]
  unfold onP
  rw [decide_eq_true_eq]
  refine ⟨fun h => h.2, fun h => ⟨?_, h⟩⟩
  obtain ⟨k, _, rfl⟩ := List.mem_map.mp h
  exact pl_lt hw
/-! small facts -/
theorem range_all (x : Str) (q : Nat → Bool) : ((List.range x.length).map fun i => q ((tl x).getD i 0)).all id = (tl x).all q := by
  rw [len_tl]
  have e := Rg.range_getD (tl x)
  conv => rhs; rw [← e]
  rw [List.all_map, List.all_map]
  rfl
theorem fig_dec (c : Nat) : decide (c ∈ tl ("0123456789" : Str)) = decide (48 ≤ c ∧ c ≤ 57) := decide_eq_decide.mpr (fig_mem c)
theorem one_eq (c : Nat) : decide ((⟨#[c]⟩ : Str) = "0") = decide (c = 48) := by
  refine decide_eq_decide.mpr ⟨fun h => ?_, fun h => ?_⟩
  · have e : tl (⟨#[c]⟩ : Str) = tl ("0" : Str) := by rw [h]
    have e2 : tl ("0" : Str) = [48] := by decide +kernel
    rw [e2] at e
    have e : [c] = [48] := e
    simpa using e
  · subst h
    decide +kernel
theorem lex_one (a b : Nat) : decide (([a] : List Nat) < [b]) = decide (a < b) := decide_eq_decide.mpr (by
  constructor
  · intro h
    cases h with
    | rel h => exact h
    | cons h => cases h
  · exact fun h => .rel h)
theorem dig_dec (c : Nat) : (!(!decide (tl (⟨#[c]⟩ : Str) < tl ("0" : Str)) && !decide (tl ("9" : Str) < tl (⟨#[c]⟩ : Str)))) = !decide (48 ≤ c ∧ c ≤ 57) := by
  have e1 : tl ("0" : Str) = [48] := by decide +kernel
  have e2 : tl ("9" : Str) = [57] := by decide +kernel
  have e3 : tl (⟨#[c]⟩ : Str) = [c] := rfl
  rw [e1, e2, e3, lex_one, lex_one]
  by_cases h1 : c < 48
  · rw [decide_eq_true h1, decide_eq_false (show ¬ (48 ≤ c ∧ c ≤ 57) by omega)]
    rfl
  · by_cases h2 : 57 < c
    · rw [decide_eq_false h1, decide_eq_true h2, decide_eq_false (show ¬ (48 ≤ c ∧ c ≤ 57) by omega)]
      rfl
    · rw [decide_eq_false h1, decide_eq_false h2, decide_eq_true (show 48 ≤ c ∧ c ≤ 57 by omega)]
      rfl
theorem six {l : List Str} (h : l.length = 6) : ∃ a b c d e f, l = [a, b, c, d, e, f] := by
  match l, h with
  | [a, b, c, d, e, f], _ => exact ⟨a, b, c, d, e, f, rfl⟩
theorem parts_of {t a b c d e f : Str} {w s m : Nat} (h : Txt.split t " " = [a, b, c, d, e, f]) (ht : t = writ w s m) : a = sN m ∧ b = "points" ∧ c = "by" ∧ d = sN s ∧ e = "on" ∧ f = sN w := by
  rw [ht, split_writ] at h
  unfold wds at h
  injection h with h1 h
  injection h with h2 h
  injection h with h3 h
  injection h with h4 h
  injection h with h5 h
  injection h with h6 h
  exact ⟨h1.symm, h2.symm, h3.symm, h4.symm, h5.symm, h6.symm⟩
theorem writ_of {t : Str} {w s m : Nat} (h : Txt.split t " " = [sN m, "points", "by", sN s, "on", sN w]) : t = writ w s m := by
  rw [← split_back t, h, writ_join]
  rfl
theorem six_of {t : Str} {w s m : Nat} (ht : t = writ w s m) : (Txt.split t " ").length = 6 := by
  rw [ht, split_writ]
  rfl
theorem lnum_none {x : Str} (h : lnum x = none) {n : Nat} (h1 : 1 ≤ n) (h2 : n ≤ 999) : x ≠ sN n := fun e => by
  rw [e, lnum_sN h2 h1] at h
  cases h
theorem sN_inj {a b : Nat} (h : sN a = sN b) : a = b := by
  have := valS_sN a
  rw [h, valS_sN] at this
  exact this.symm
theorem writ_inj {w s m w' s' m' : Nat} (h : writ w s m = writ w' s' m') : w = w' ∧ s = s' ∧ m = m' := by
  obtain ⟨p1, _, _, p4, _, p6⟩ := parts_of (t := writ w s m) (split_writ w s m) h
  exact ⟨sN_inj p6, sN_inj p4, sN_inj p1⟩
theorem okC_sN (n : Nat) : okC (sN n) := fun c hc => by
  rw [tl_num] at hc
  have := numL_digits n c hc
  omega
theorem okC_of {x : Str} (h : (tl x).all (fun c => decide (c < 0x110000)) = true) : okC x := fun c hc => of_decide_eq_true (List.all_eq_true.mp h c hc)
theorem okC_writ (w s m : Nat) : okC (writ w s m) := cat_ok (cat_ok (cat_ok (cat_ok (okC_sN m) (okC_of (by decide +kernel))) (okC_sN s)) (okC_of (by decide +kernel))) (okC_sN w)
theorem no_num {x : Str} {n : Nat} (h : isNum x = false) (hn : n ≤ 999) (e : x = sN n) : False := by
  rw [e, isNum_sN hn] at h
  cases h
theorem sh_str {n : Nat} {x : Str} (h : okC x) : sh n (.str x) := ⟨by
  show PyData.strOk x = true
  unfold PyData.strOk
  rw [← Array.all_toList, List.all_eq_true]
  exact fun c hc => decide_eq_true (h c hc), Nat.zero_le _⟩
/-! ### what the defs are worth -/
def T_written : FSpec := pure1 fun ds d => ∃ w s m : Nat, w ≤ 999 ∧ s ≤ 999 ∧ m ≤ 999 ∧ ds = [rowD w s m] ∧ d = .str (writ w s m)
def T_numX (K : PySem.W.Frag) : FSpecX := fun rs O Φ Ξ => ∃ x : Str, x.length ≤ 1000 ∧ rs = [vS x] ∧ (isNum x = true → Φ (vI (valS x : Nat)) O) ∧ (isNum x = false → Ξ (.ref (He.ga K "NoText")) O)
def T_readX (K : PySem.W.Frag) : FSpecX := fun rs O Φ Ξ => ∃ t : Str, t.length ≤ 500 ∧ rs = [vS t] ∧ (∀ w s m, Row1 w s m → t = writ w s m → Φ (.d (rowD w s m)) O) ∧ ((∀ w s m, Row1 w s m → t ≠ writ w s m) → Ξ (.ref (He.ga K "NoText")) O)
def T_drawing : FSpec := pure1 fun ds d => ∃ w s m : Nat, Row w s m ∧ ds = [rowD w s m] ∧ d = .str (drS w (onP w s m))
def T_points_of : FSpec := pure1 fun ds d => ∃ (w : Nat) (p : Nat → Bool), w ≤ 1000 ∧ ds = [.str (drS w p)] ∧ d = .tuple (((List.range w).filter p).map nD)
def T_lnum : FSpec := pure1 fun ds d => ∃ x : Str, x.length ≤ 1000 ∧ okC x ∧ ds = [.str x] ∧ d = oD (lnum x)
def T_due : FSpec := fun rs O Φ => ∃ t : Str, t.length ≤ 500 ∧ okC t ∧ rs = [vS t] ∧ (∀ w s m, Row1 w s m → t = writ w s m → Φ (vT [.str "told", rowD w s m]) O) ∧ ((∀ w s m, Row1 w s m → t ≠ writ w s m) → Φ (vT [.str "refused", .bool true]) O)
def T_chgT : FSpec := fun rs O Φ => ∃ (t : Str) (n : Nat), t.length ≤ 500 ∧ okC t ∧ rs = [vS t, vI n] ∧ ∀ t' : Str, t'.length ≤ t.length + 1 → okC t' → Φ (vS t') O
end Py
set_option maxHeartbeats 400000
namespace Py.R
open PySem PySem.Spec PyProof.Rows L2 Py Rg TL
def topS (i : Nat) : Stmt := PySem.Challenge.pw_ringgaps_k02_whole_texts.main.body.getD i (.Pass ⟨0, 0, 0, 0⟩)
abbrev s__law_cell_at : Stmt := topS 24
abbrev n__law_cell_at : List Str := ["script", "k"]
theorem sc__law_cell_at : FnScope n__law_cell_at ["script", "k"] (defScope s__law_cell_at) := ⟨rfl, rfl, rfl, by decide +kernel, rfl, by decide +kernel, by decide +kernel⟩
abbrev s__law_mixed : Stmt := topS 25
abbrev n__law_mixed : List Str := ["script", "k", "drawn"]
theorem sc__law_mixed : FnScope n__law_mixed ["script", "k"] (defScope s__law_mixed) := ⟨rfl, rfl, rfl, by decide +kernel, rfl, by decide +kernel, by decide +kernel⟩
abbrev s__law_pair : Stmt := topS 28
abbrev n__law_pair : List Str := ["number", "most", "whole", "step"]
theorem sc__law_pair : FnScope n__law_pair ["number", "most"] (defScope s__law_pair) := ⟨rfl, rfl, rfl, by decide +kernel, rfl, by decide +kernel, by decide +kernel⟩
abbrev s__law_turn : Stmt := topS 27
abbrev n__law_turn : List Str := ["whole", "step", "k"]
theorem sc__law_turn : FnScope n__law_turn ["whole", "step"] (defScope s__law_turn) := ⟨rfl, rfl, rfl, by decide +kernel, rfl, by decide +kernel, by decide +kernel⟩
abbrev s__law_row : Stmt := topS 29
abbrev n__law_row : List Str := ["number", "most", "whole", "step"]
theorem sc__law_row : FnScope n__law_row ["number", "most"] (defScope s__law_row) := ⟨rfl, rfl, rfl, by decide +kernel, rfl, by decide +kernel, by decide +kernel⟩
abbrev s__law_told : Stmt := topS 30
abbrev n__law_told : List Str := ["deed", "kind", "found", "e", "kinds", "good"]
theorem sc__law_told : FnScope n__law_told ["deed", "kind"] (defScope s__law_told) := ⟨rfl, rfl, rfl, by decide +kernel, rfl, by decide +kernel, by decide +kernel⟩
abbrev s_number_in : Stmt := topS 19
abbrev n_number_in : List Str := ["word", "sign"]
theorem sc_number_in : FnScope n_number_in ["word"] (defScope s_number_in) := ⟨rfl, rfl, rfl, by decide +kernel, rfl, by decide +kernel, by decide +kernel⟩
abbrev s_is_whole : Stmt := topS 8
abbrev n_is_whole : List Str := ["thing", "low", "high"]
theorem sc_is_whole : FnScope n_is_whole ["thing", "low", "high"] (defScope s_is_whole) := ⟨rfl, rfl, rfl, by decide +kernel, rfl, by decide +kernel, by decide +kernel⟩
abbrev s_common : Stmt := topS 9
abbrev n_common : List Str := ["one", "other"]
theorem sc_common : FnScope n_common ["one", "other"] (defScope s_common) := ⟨rfl, rfl, rfl, by decide +kernel, rfl, by decide +kernel, by decide +kernel⟩
abbrev s_turn : Stmt := topS 10
abbrev n_turn : List Str := ["whole", "step"]
theorem sc_turn : FnScope n_turn ["whole", "step"] (defScope s_turn) := ⟨rfl, rfl, rfl, by decide +kernel, rfl, by decide +kernel, by decide +kernel⟩
abbrev s_is_row : Stmt := topS 11
abbrev n_is_row : List Str := ["thing"]
theorem sc_is_row : FnScope n_is_row ["thing"] (defScope s_is_row) := ⟨rfl, rfl, rfl, by decide +kernel, rfl, by decide +kernel, by decide +kernel⟩
abbrev s_written : Stmt := topS 18
abbrev n_written : List Str := ["row"]
theorem sc_written : FnScope n_written ["row"] (defScope s_written) := ⟨rfl, rfl, rfl, by decide +kernel, rfl, by decide +kernel, by decide +kernel⟩
abbrev s_read : Stmt := topS 20
abbrev n_read : List Str := ["text", "words", "found"]
theorem sc_read : FnScope n_read ["text"] (defScope s_read) := ⟨rfl, rfl, rfl, by decide +kernel, rfl, by decide +kernel, by decide +kernel⟩
abbrev s_place : Stmt := topS 12
abbrev n_place : List Str := ["row", "k"]
theorem sc_place : FnScope n_place ["row", "k"] (defScope s_place) := ⟨rfl, rfl, rfl, by decide +kernel, rfl, by decide +kernel, by decide +kernel⟩
abbrev s_drawing : Stmt := topS 21
abbrev n_drawing : List Str := ["row", "some", "k", "here"]
theorem sc_drawing : FnScope n_drawing ["row"] (defScope s_drawing) := ⟨rfl, rfl, rfl, by decide +kernel, rfl, by decide +kernel, by decide +kernel⟩
abbrev s_points_of : Stmt := topS 22
abbrev n_points_of : List Str := ["text", "here", "sign"]
theorem sc_points_of : FnScope n_points_of ["text"] (defScope s_points_of) := ⟨rfl, rfl, rfl, by decide +kernel, rfl, by decide +kernel, by decide +kernel⟩
abbrev s__law_number : Stmt := topS 31
abbrev n__law_number : List Str := ["word", "sign"]
theorem sc__law_number : FnScope n__law_number ["word"] (defScope s__law_number) := ⟨rfl, rfl, rfl, by decide +kernel, rfl, by decide +kernel, by decide +kernel⟩
abbrev s__law_due : Stmt := topS 32
abbrev n__law_due : List Str := ["text", "words", "row"]
theorem sc__law_due : FnScope n__law_due ["text"] (defScope s__law_due) := ⟨rfl, rfl, rfl, by decide +kernel, rfl, by decide +kernel, by decide +kernel⟩
abbrev s__law_changed : Stmt := topS 33
abbrev n__law_changed : List Str := ["text", "number", "at", "sign", "kind", "words"]
theorem sc__law_changed : FnScope n__law_changed ["text", "number"] (defScope s__law_changed) := ⟨rfl, rfl, rfl, by decide +kernel, rfl, by decide +kernel, by decide +kernel⟩
abbrev s__law_drawn : Stmt := topS 26
abbrev n__law_drawn : List Str := ["number", "k", "drawn"]
theorem sc__law_drawn : FnScope n__law_drawn ["number", "k"] (defScope s__law_drawn) := ⟨rfl, rfl, rfl, by decide +kernel, rfl, by decide +kernel, by decide +kernel⟩
abbrev s_law : Stmt := topS 34
abbrev n_law : List Str := ["script", "number", "row", "text", "some", "k", "signs", "here"]
theorem sc_law : FnScope n_law ["script"] (defScope s_law) := ⟨rfl, rfl, rfl, by decide +kernel, rfl, by decide +kernel, by decide +kernel⟩
section
variable {P : Program} {w : World} {K : PySem.W.Frag} {mg : Str → Option Value} {base : Heap} {cT PT : Addr}
-- slots: 0 script, 1 k
theorem f__law_cell_at (H__law_cell_at : Has K mg "_law_cell_at" s__law_cell_at) (b_len : mg "len" = none) : Fn P w K mg base "_law_cell_at" 1 T__law_cell_at := by
  refine fn_mk2 H__law_cell_at sc__law_cell_at (fun _ _ _ _ _ _ us hl => match us, hl with | [_, _], _ => rfl) ?_ ?_
  · rintro rs O Φ ⟨ns, k, rfl, h⟩
    rfl
  · rintro f cdv A outer s H E rs O Φ hr ⟨ns, k, rfl, h⟩
    refine sb_cons (s_if (tc (c_lt (x_var 1) (x_lenS b_len (x_var 0)))) (fun hk => ?_) (fun hk => ?_))
    · have hk' : k < ns.length := by simpa using hk
      refine sb_cons (s_ret (x_ixS (n := ns[k]) (x_var 0) (x_var 1) ?_) ?_)
      · exact atI_nat (List.getElem?_eq_getElem hk')
      · have e : cellN ns k = ns[k] := by unfold cellN; rw [List.getElem?_eq_getElem hk']; rfl
        rw [e] at h
        exact h
    · have hk' : ns.length ≤ k := by simpa using hk
      refine sb_nil (sb_cons (s_ret x_int ?_))
      have e : cellN ns k = 0 := by unfold cellN; rw [List.getElem?_eq_none hk']; rfl
      rw [e] at h
      exact h
-- slots: 0 script, 1 k, 2 drawn
theorem f__law_mixed (H__law_mixed : Has K mg "_law_mixed" s__law_mixed) (F__law_cell_at : Fn P w K mg base "_law_cell_at" 1 T__law_cell_at) : Fn P w K mg base "_law_mixed" 2 T__law_mixed := by
  refine fn_mk2 H__law_mixed sc__law_mixed (fun _ _ _ _ _ _ us hl => match us, hl with | [_, _], _ => rfl) ?_ ?_
  · rintro rs O Φ ⟨ns, k, rfl, h⟩
    rfl
  · rintro f cdv A outer s H E rs O Φ hr ⟨ns, k, rfl, h⟩
    have hd := mixD_lt ns k
    refine sb_cons (s_set 2 sc__law_mixed.nd (r := vI (mixD ns k)) (x_mod (x_mul (x_add (x_add (g_call F__law_cell_at hr (a_cons (x_var 0) (a_cons (x_var 1) a_nil)) ⟨ns, k, rfl, rfl, rfl⟩) (x_mul x_int (x_var 1) (.inl (by decide)))) x_int) x_int (.inr (by decide))) x_int (by decide)) ?_)
    refine sb_cons (s_ret (x_mod (x_add (x_add (x_mul (x_var 2) (x_var 2) (.inl (by omega))) (x_mul x_int (x_var 2) (.inl (by decide)))) (x_var 1)) x_int (by decide)) ?_)
    rw [mixN_cast] at h
    exact h
-- slots: 0 number, 1 most, 2 whole, 3 step
theorem f__law_pair (H__law_pair : Has K mg "_law_pair" s__law_pair) : Fn P w K mg base "_law_pair" 1 T__law_pair := by
  refine fn_mk2 H__law_pair sc__law_pair (fun _ _ _ _ _ _ us hl => match us, hl with | [_, _], _ => rfl) ?_ ?_
  · rintro rs O Φ ⟨ds, d, rfl, ⟨n, most, h1, h2, rfl, rfl⟩, h⟩
    rfl
  · rintro f cdv A outer s0 H E rs O Φ hr ⟨ds, d, rfl, ⟨n, most, h1, h2, rfl, rfl⟩, h⟩
    have hw := prW_b (n := n) h1
    have e1 : (2 : Int) + (n : Int) % ((most : Int) - 1) = (prW n most : Int) := by
      unfold prW
      have : ((most : Int) - 1) = ((most - 1 : Nat) : Int) := by omega
      rw [this]
      push_cast
      rfl
    have e2 : (1 : Int) + (n : Int) / 128 % ((prW n most : Int) - 1) = (prS n most : Int) := by
      unfold prS
      have : ((prW n most : Int) - 1) = ((prW n most - 1 : Nat) : Int) := by omega
      rw [this]
      push_cast
      rfl
    refine sb_cons (s_set 2 sc__law_pair.nd (r := vI (prW n most)) ((x_add x_int (x_mod (x_var 0) (x_sub (x_var 1) x_int) (by omega))).cast (by rw [e1])) ?_)
    refine sb_cons (s_set 3 sc__law_pair.nd (r := vI (prS n most)) ((x_add x_int (x_mod (x_fdiv (x_var 0) x_int (by decide)) (x_sub (x_var 2) x_int) (by omega))).cast (by rw [e2])) ?_)
    exact sb_cons (s_ret (y_tup (ad_cons (x_var 2) (ad_cons (x_var 3) ad_nil))) h)
-- slots: 0 whole, 1 step, 2 k
theorem f__law_turn (H__law_turn : Has K mg "_law_turn" s__law_turn) (b_range : mg "range" = none) : Fn P w K mg base "_law_turn" 1 T__law_turn := by
  refine fn_mk2 H__law_turn sc__law_turn (fun _ _ _ _ _ _ us hl => match us, hl with | [_, _], _ => rfl) ?_ ?_
  · rintro rs O Φ ⟨ds, d, rfl, ⟨w, s, h1, h2, h3, rfl, rfl⟩, h⟩
    rfl
  · rintro f cdv A outer s0 H E rs O Φ hr ⟨ds, d, rfl, ⟨w, s, h1, h2, h3, rfl, rfl⟩, h⟩
    have hu := hr.units
    have ht := tn_pos (s := s) h1
    have htl := tn_le w s
    refine sb_cons (s_ret (x_ixL (d := .int (tn w s)) (x_lc (xs := List.range w) [("k", 2)] [2] (fun i => [some (vI w), some (vI s), some (vI (1 + (i : Int)))]) (fun i => (1 + i) * s % w == 0) (fun i => .int (1 + (i : Int))) sc__law_turn.nd
      (IT.as (it_range2 (by rfl) b_range x_int (x_add (x_var 0) x_int) (by omega)) ?_) (blkOk_by (N := n__law_turn) (sc := defScope s__law_turn) (by decide +kernel)) ?_
      (fun i hi _ _ _ _ _ => tg_name 2 sc__law_turn.nd)
      (fun i hi O' hO _ _ _ _ _ => ET.cast (tc (c_eq (x_mod (x_mul (x_var 2) (x_var 1) (.inr (by omega))) (x_var 0) (by omega)) x_int)) (beq_nat ((1 + i) * s % w) 0 (by push_cast; rfl)))
      (fun i hi _ O' hO _ _ _ _ _ => x_var 2)) x_int ?_) ?_)
    · have e : ((w : Int) + 1 - 1).toNat = w := by omega
      rw [e]
    · simp; omega

    · refine atI_nat (j := 0) ?_
      rw [List.getElem?_map, turn_head h1]
      simp
      omega
    · exact h
-- slots: 0 number, 1 most, 2 whole, 3 step
theorem f__law_row (H__law_row : Has K mg "_law_row" s__law_row) (F__law_pair : Fn P w K mg base "_law_pair" 1 T__law_pair) (F__law_turn : Fn P w K mg base "_law_turn" 1 T__law_turn) : Fn P w K mg base "_law_row" 2 T__law_row := by
  refine fn_mk2 H__law_row sc__law_row (fun _ _ _ _ _ _ us hl => match us, hl with | [_, _], _ => rfl) ?_ ?_
  · rintro rs O Φ ⟨ds, d, rfl, ⟨n, most, h1, h2, rfl, rfl⟩, h⟩
    rfl
  · rintro f cdv A outer s0 H E rs O Φ hr ⟨ds, d, rfl, ⟨n, most, h1, h2, rfl, rfl⟩, h⟩
    have hw := prW_b (n := n) h1
    have hs := prS_b (n := n) h1
    have ht := tn_pos (w := prW n most) (s := prS n most) (by omega)
    have htl := tn_le (prW n most) (prS n most)
    refine sb_cons (s_asg (y_call F__law_pair (hr.mono (by decide)) (ad_cons (x_var 0) (ad_cons (x_var 1) ad_nil)) ⟨n, most, h1, h2, rfl, rfl⟩) (tg_tup rfl (tgs_cons (tg_name 2 sc__law_row.nd) (tgs_cons (tg_name 3 sc__law_row.nd) tgs_nil))) ?_)
    have e : (1 : Int) + (n : Int) / 16384 % (tn (prW n most) (prS n most) : Int) = (prM n most : Int) := by
      unfold prM
      push_cast
      rfl
    exact sb_cons (s_ret (y_tup (ad_cons (x_var 2) (ad_cons (x_var 3) (ad_cons ((x_add x_int (x_mod (x_fdiv (x_var 0) x_int (by decide)) (y_call F__law_turn (hr.mono (by decide)) (ad_cons (x_var 2) (ad_cons (x_var 3) ad_nil)) ⟨prW n most, prS n most, by omega, by omega, by omega, rfl, rfl⟩) (by omega))).cast (by rw [e])) ad_nil)))) h)
-- slots: 0 deed, 1 kind, 2 found, 3 e, 4 kinds, 5 good
theorem f__law_told (H__law_told : Has K mg "_law_told" s__law_told) (g_RingError : mg "RingError" = some (.ref (He.ga K "RingError"))) (g_NoStep : mg "NoStep" = some (.ref (He.ga K "NoStep"))) (g_NoRoom : mg "NoRoom" = some (.ref (He.ga K "NoRoom"))) (g_NoPoint : mg "NoPoint" = some (.ref (He.ga K "NoPoint"))) (g_NoText : mg "NoText" = some (.ref (He.ga K "NoText"))) (b_isinstance : mg "isinstance" = none) (b_ValueError : mg "ValueError" = none) (k : Nat) : FnL P w K mg base "_law_told" k (T_told K) := by
  refine ⟨s__law_told, n__law_told, "deed", ["kind"], H__law_told, sc__law_told, (fun _ _ _ _ _ _ us hl => match us, hl with | [_, _], _ => rfl), rfl, Or.inl rfl, by decide, by decide, ?_, ?_⟩
  · rintro rs O Φ Ξ Ψ ⟨kind, rfl, _⟩
    rfl
  · rintro g cdv A outer s0 H Ex f Pm rs O Φ Ξ Ψ hr ⟨kind, rfl, hΦ, hΞ⟩ hact
    have hu := hr.units
    have hu5 : (cxOf CX0 P w K mg base n__law_told "_law_told" (defScope s__law_told) g cdv A outer s0 H Ex).nox.A.units + 65 < cLine := by have := hr.un; omega
    refine sb_cons (s_tryAs 3 rfl rfl sc__law_told.nd rfl rfl ⟨rfl, by decide, .inl g_RingError⟩ (fun pn xe => sbs_told 2 sc__law_told.nd (hact pn xe _ _ _ rfl) (fun r O' h => ?_)) ?_)
    · obtain ⟨d, rfl, hd⟩ := hΦ r O' h
      exact ⟨d, rfl, sb_cons (s_ret (x_var 2) hd)⟩
    · rintro cls E' O' ⟨rfl, hX⟩
      obtain ⟨D, i, rfl, C, hd⟩ := hΞ cls O' hX
      refine ⟨C.exm, fun a oe pn hz hv => ?_⟩
      have hN : ∀ {nm : Str} {v : Addr} {p : Pos} {E : En} {O : Own}, mg nm = some (.ref v) → Gl (cxOf CX0 P w K mg base n__law_told "_law_told" (defScope s__law_told) g cdv A outer s0 H Ex).nox nm → (nm == ("__debug__" : Str)) = false → EX ((cxOf CX0 P w K mg base n__law_told "_law_told" (defScope s__law_told) g cdv A outer s0 H Ex).nox.suite a ((a, oe) :: pn)) (.Name nm p) E O (.v (.ref v)) := fun h1 h2 h3 => x_glob (v := .ref _) h2 h1 rfl (fun _ => rfl) h3
      have hr1 : ∀ {v : Addr} (u : Value), RelV (.ref v) u → u = .ref v := fun _ z => z
      refine sb_cons (s_set 4 sc__law_told.nd (x_lst (ds := [.bool (decide (i = 0)), .bool (decide (i = 1)), .bool (decide (i = 2)), .bool (decide (i = 3))])
        (a_cons (x_isE C.exc hz hv b_isinstance (x_var 3) (hN g_NoStep rfl (by decide)) hr1 C.k0) (a_cons (x_isE C.exc hz hv b_isinstance (x_var 3) (hN g_NoRoom rfl (by decide)) hr1 C.k1) (a_cons (x_isE C.exc hz hv b_isinstance (x_var 3) (hN g_NoPoint rfl (by decide)) hr1 C.k2) (a_cons (x_isE C.exc hz hv b_isinstance (x_var 3) (hN g_NoText rfl (by decide)) hr1 C.k3) a_nil)))) (by show 4 ≤ 100000; decide)) ?_)
      have hi := C.lt
      have hcount : ([.bool (decide (i = 0)), .bool (decide (i = 1)), .bool (decide (i = 2)), .bool (decide (i = 3))] : List PyData).countP (fun z => PyData.eqv z (.bool true)) = 1 := by
        rcases (show i = 0 ∨ i = 1 ∨ i = 2 ∨ i = 3 by omega) with rfl | rfl | rfl | rfl <;> rfl
      have hsh : SeqAt.shaped (.list [.bool (decide (i = 0)), .bool (decide (i = 1)), .bool (decide (i = 2)), .bool (decide (i = 3))]) = true := by
        rcases (show i = 0 ∨ i = 1 ∨ i = 2 ∨ i = 3 by omega) with rfl | rfl | rfl | rfl <;> decide
      refine sb_cons (s_set 5 sc__law_told.nd (r := vB true) (EX.cast (x_and (k := true) (k' := true) (x_isE C.exc hz hv b_isinstance (x_var 3) (x_tyN b_ValueError (by rfl)) (fun _ z => z) C.kv) (fun _ => x_one (EX.cast (xc (c_eq (x_countL (x_var 4) x_bl hsh rfl hu5) x_int hu)) (by rw [hcount]; rfl)))) rfl) ?_)
      have hat : ([.bool (decide (i = 0)), .bool (decide (i = 1)), .bool (decide (i = 2)), .bool (decide (i = 3))] : List PyData)[i]? = some (.bool true) := by
        rcases (show i = 0 ∨ i = 1 ∨ i = 2 ∨ i = 3 by omega) with rfl | rfl | rfl | rfl <;> rfl
      have hno : ∀ (m : Nat) (z' : PyData), m < i → ([.bool (decide (i = 0)), .bool (decide (i = 1)), .bool (decide (i = 2)), .bool (decide (i = 3))] : List PyData)[m]? = some z' → PyData.eqv z' (.bool true) = false := by
        intro m z' hm hz'
        have hm3 : m = 0 ∨ m = 1 ∨ m = 2 := by omega
        have hne : decide (i = m) = false := decide_eq_false (by omega)
        rcases hm3 with rfl | rfl | rfl <;> (simp at hz'; subst hz'; rw [hne]; rfl)
      refine sb_cons (s_set 2 sc__law_told.nd (r := vT [.str "refused", .bool (decide ((i : Int) = kind))]) (y_tup (ad_cons x_str (ad_cons (EX.cast (x_and (k := true) (x_var 5) (fun _ => x_one (xc (c_eq (x_indexL (x_var 4) x_bl hsh rfl hat rfl hno hu5) (x_var 1) hu)))) ?z1) ad_nil))) ?_)
      case z1 => rw [Bool.true_and]; rfl
      exact sb_nil (sb_cons (s_ret (x_var 2) hd))
-- slots: 0 word, 1 sign
theorem f_number_in (H_number_in : Has K mg "number_in" s_number_in) (x_NoText : ExK K mg "NoText" (He.ga K "NoText")) (b_len : mg "len" = none) (b_all : mg "all" = none) (b_int : mg "int" = none) (i_MOST_FIGURES : ∃ t, mg "MOST_FIGURES" = some (.int 3 t)) (i_FIGURES : ∃ t, mg "FIGURES" = some (.str "0123456789" t)) : FnX P w K mg base "number_in" 1 (T_numX K) := by
  refine fnx_mk2 H_number_in sc_number_in (fun _ _ _ _ _ _ us hl => match us, hl with | [_], _ => rfl) ?_ ?_
  · rintro rs O Φ Ξ ⟨x, hx, rfl, h1, h2⟩
    rfl
  · rintro f cdv A outer s0 H E rs O Φ Ξ hr ⟨x, hx, rfl, h1, h2⟩
    have hu := hr.units
    refine sbx_cons (sx_if (k := !isNum x) (ET.cast (t_w (w_or (t_not (t_chain op_le op_le x_int (x_lenS' b_len (x_var 0) (by omega)) (x_globI i_MOST_FIGURES))) (fun _ => w_or1 (t_not (t_val (x_all (bs := (List.range x.length).map fun i => decide (48 ≤ (tl x).getD i 0 ∧ (tl x).getD i 0 ≤ 57)) b_all (EX.cast (x_lc0 (xs := List.range x.length) [("sign", 1)] [1] (fun i => [some (vS x), some (vS (chS x i))]) (fun i => .bool (decide (48 ≤ (tl x).getD i 0 ∧ (tl x).getD i 0 ≤ 57))) sc_number_in.nd
      (it_str (x_var 0)) (blkOk_by (N := n_number_in) (sc := defScope s_number_in) (by decide +kernel)) (by rw [List.length_range]; omega)
      (fun i hi _ _ _ _ _ => tg_name 1 sc_number_in.nd)
      (fun i hi O' hO _ _ _ _ _ => EX.cast (xc (c_inS (c := (tl x).getD i 0) (z := "0123456789") (x_var 1) (x_globS i_FIGURES))) (by rw [fig_dec]))) (by rw [List.map_map]; rfl)))))))) ?a1) (fun hk => sbx_cons (sx_raise x_NoText (h2 (by simpa using hk)))) (fun hk => sbx_nil (sbx_of ?_)))
    case a1 =>
      rw [range_all x fun c => decide (48 ≤ c ∧ c ≤ 57)]
      unfold isNum
      have e1 : decide ((1 : Int) ≤ (x.length : Nat)) = decide (1 ≤ x.length) := decide_eq_decide.mpr (by omega)
      have e2 : decide (((x.length : Nat) : Int) ≤ 3) = decide (x.length ≤ 3) := decide_eq_decide.mpr (by omega)
      rw [e1, e2]
      cases decide (1 ≤ x.length) <;> cases decide (x.length ≤ 3) <;> simp
    have hn : isNum x = true := by simpa using hk
    have hl := (isNum_iff.mp hn).2.1
    exact sb_cons (s_ret (x_intS b_int (x_var 0) (int_valS hn) (by omega)) (h1 hn))
-- slots: 0 thing, 1 low, 2 high
theorem f_is_whole (H_is_whole : Has K mg "is_whole" s_is_whole) (b_isinstance : mg "isinstance" = none) (b_int : mg "int" = none) (b_bool : mg "bool" = none) : Fn P w K mg base "is_whole" 1 T_is_whole := by
  refine fn_mk2 H_is_whole sc_is_whole (fun _ _ _ _ _ _ us hl => match us, hl with | [_, _, _], _ => rfl) ?_ ?_
  · rintro rs O Φ ⟨ds, d, rfl, ⟨x, lo, hi, rfl, rfl⟩, h⟩
    rfl
  · rintro f cdv A outer s0 H E rs O Φ hr ⟨ds, d, rfl, ⟨x, lo, hi, rfl, rfl⟩, h⟩
    cases x with
    | int i =>
      exact sb_cons (s_ret (EX.cast (x_and (k := true) (x_isi (d := .int i) (bb := true) b_isinstance b_int (x_var 0) PyProof.Rows.boot_int (kit_int _)) (fun _ => x_and (k := true) (x_not (x_isi (d := .int i) (bb := false) b_isinstance b_bool (x_var 0) PyProof.Rows.boot_bool (kit_bool _))) (fun _ => x_one (x_chain op_le op_le (x_var 1) (x_var 0) (x_var 2))))) (congrArg (fun z => vB z) (by show (true && (true && (decide (lo ≤ i) && decide (i ≤ hi)))) = (decide (lo ≤ i) && decide (i ≤ hi)); simp))) h)
    | bool b => exact sb_cons (s_ret (EX.cast (x_and (k := true) (k' := false) (x_isi (d := .bool b) (bb := true) b_isinstance b_int (x_var 0) PyProof.Rows.boot_int (kit_int _)) (fun _ => x_and (k := false) (k' := false) (x_not (x_isi (d := .bool b) (bb := true) b_isinstance b_bool (x_var 0) PyProof.Rows.boot_bool (kit_bool _))) (fun z => nomatch z))) rfl) h)
    | none => exact sb_cons (s_ret (EX.cast (x_and (k := false) (k' := false) (x_isi (d := .none) (bb := false) b_isinstance b_int (x_var 0) PyProof.Rows.boot_int (kit_int _)) (fun z => nomatch z)) rfl) h)
    | str z => exact sb_cons (s_ret (EX.cast (x_and (k := false) (k' := false) (x_isi (d := .str z) (bb := false) b_isinstance b_int (x_var 0) PyProof.Rows.boot_int (kit_int _)) (fun z => nomatch z)) rfl) h)
    | list z => exact sb_cons (s_ret (EX.cast (x_and (k := false) (k' := false) (x_isi (d := .list z) (bb := false) b_isinstance b_int (x_var 0) PyProof.Rows.boot_int (kit_int _)) (fun z => nomatch z)) rfl) h)
    | tuple z => exact sb_cons (s_ret (EX.cast (x_and (k := false) (k' := false) (x_isi (d := .tuple z) (bb := false) b_isinstance b_int (x_var 0) PyProof.Rows.boot_int (kit_int _)) (fun z => nomatch z)) rfl) h)
    | dict z => exact sb_cons (s_ret (EX.cast (x_and (k := false) (k' := false) (x_isi (d := .dict z) (bb := false) b_isinstance b_int (x_var 0) PyProof.Rows.boot_int (kit_int _)) (fun z => nomatch z)) rfl) h)
-- slots: 0 one, 1 other
theorem f_common (H_common : Has K mg "common" s_common) : Fn P w K mg base "common" 1 T_common := by
  refine fn_mk2 H_common sc_common (fun _ _ _ _ _ _ us hl => match us, hl with | [_, _], _ => rfl) ?_ ?_
  · rintro rs O Φ ⟨ds, d, rfl, ⟨a, b, rfl, rfl⟩, h⟩
    rfl
  · rintro f cdv A outer s0 H E rs O Φ hr ⟨ds, d, rfl, ⟨a, b, rfl, rfl⟩, h⟩
    refine sb_while (fun (t : Nat × Nat) => [some (vI t.1), some (vI t.2)]) (fun _ => O) (fun t => Nat.gcd t.1 t.2 = Nat.gcd a b) (fun t => t.2) (a, b) rfl (by repeat constructor) rfl ?_
    rintro ⟨x, y⟩ hg
    refine ⟨_, tc (c_gtN (m := 0) (x_var 1) x_int), fun hk => ?_, fun hk => ?_⟩
    · have hk' : 0 < y := of_decide_eq_true hk
      refine sb_cons (y_par 0 1 sc_common.nd (x_var 1) (x_modN (x_var 0) (x_var 1) hk') (sb_nil ⟨(y, x % y), Nat.mod_lt _ hk', ?_, by repeat constructor, rfl⟩))
      show Nat.gcd y (x % y) = _
      rw [← hg, Nat.gcd_comm y, ← Nat.gcd_rec, Nat.gcd_comm]
    · have hk' : ¬ 0 < y := of_decide_eq_false hk
      obtain rfl : y = 0 := by omega
      refine sb_cons (s_ret (x_var 0) ?_)
      have e : x = Nat.gcd a b := by rw [← hg]; exact (Nat.gcd_zero_right x).symm
      rw [e]
      exact h
-- slots: 0 whole, 1 step
theorem f_turn (H_turn : Has K mg "turn" s_turn) (F_common : Fn P w K mg base "common" 1 T_common) : Fn P w K mg base "turn" 2 T_turn := by
  refine fn_mk2 H_turn sc_turn (fun _ _ _ _ _ _ us hl => match us, hl with | [_, _], _ => rfl) ?_ ?_
  · rintro rs O Φ ⟨ds, d, rfl, ⟨w, s, h1, h2, rfl, rfl⟩, h⟩
    rfl
  · rintro f cdv A outer s0 H E rs O Φ hr ⟨ds, d, rfl, ⟨w, s, h1, h2, rfl, rfl⟩, h⟩
    exact sb_cons (s_ret (x_fdivW (x_var 0) (y_call F_common (hr.mono (by decide)) (ad_cons (x_var 0) (ad_cons (x_var 1) ad_nil)) ⟨w, s, rfl, rfl⟩) (gcd_pos h1) (Nat.lt_of_le_of_lt (Nat.le_of_dvd h1 (Nat.gcd_dvd_left w s)) h2)) h)
-- slots: 0 thing
theorem f_is_row (H_is_row : Has K mg "is_row" s_is_row) (F_is_whole : Fn P w K mg base "is_whole" 1 T_is_whole) (F_turn : Fn P w K mg base "turn" 2 T_turn) (b_isinstance : mg "isinstance" = none) (b_tuple : mg "tuple" = none) (b_len : mg "len" = none) (i_MOST_PLACES : ∃ t, mg "MOST_PLACES" = some (.int 120 t)) : Fn P w K mg base "is_row" 3 T_is_row := by
  refine fn_mk2 H_is_row sc_is_row (fun _ _ _ _ _ _ us hl => match us, hl with | [_], _ => rfl) ?_ ?_
  · rintro rs O Φ ⟨ds, d, rfl, ⟨x, rfl, rfl⟩, h⟩
    rfl
  · rintro f cdv A outer s0 H E rs O Φ hr ⟨ds, d, rfl, ⟨x, rfl, rfl⟩, h⟩
    have hu := hr.units
    cases x with
    | tuple xs =>
      by_cases hl : xs.length = 3
      · have a0 := atI_getD (ds := xs) (i := 0) (by omega)
        have a1 := atI_getD (ds := xs) (i := 1) (by omega)
        have a2 := atI_getD (ds := xs) (i := 2) (by omega)
        have hrow : isRowD (.tuple xs) = (isW (xs.getD 0 .none) 2 120 && (isW (xs.getD 1 .none) 1 ((intD (xs.getD 0 .none) : Int) - 1) && isW (xs.getD 2 .none) 1 (tn (intD (xs.getD 0 .none)) (intD (xs.getD 1 .none)) : Nat))) := by
          show (xs.length == 3 && _) = _
          rw [beq_iff_eq.mpr hl]
          rfl
        rw [hrow] at h
        refine sb_cons (s_if (k := !isW (xs.getD 0 .none) 2 120) (ET.cast (t_w (w_or (k := false) (ET.cast (t_not (t_val (x_isi (d := .tuple xs) (bb := true) b_isinstance b_tuple (x_var 0) PyProof.Rows.boot_tuple (kit_tuple _)))) rfl) (fun _ => w_or (k := false) (ET.cast (tc (c_neN (m := 3) (x_lenT b_len (x_var 0)) x_int)) (by rw [hl]; rfl)) (fun _ => w_or1 (t_not (t_val (y_call F_is_whole (hr.mono (by decide)) (ad_cons (x_ixT (x_var 0) x_int a0) (ad_cons x_int (ad_cons (x_globI i_MOST_PLACES) ad_nil))) ⟨xs.getD 0 .none, 2, 120, rfl, rfl⟩))))))) (by simp)) (fun hk => ?_) (fun hk => sb_nil ?_))
        · have hk' : isW (xs.getD 0 .none) 2 120 = false := by simpa using hk
          rw [hk'] at h
          exact sb_cons (s_ret x_bl h)
        · have hk' : isW (xs.getD 0 .none) 2 120 = true := by simpa using hk
          rw [hk'] at h
          obtain ⟨e0, g1, g2⟩ := isW_nat hk' (by decide)
          generalize intD (xs.getD 0 .none) = w at *
          rw [e0] at a0
          refine sb_cons (s_ret (EX.cast (x_and (y_call F_is_whole (hr.mono (by decide)) (ad_cons (x_ixT (x_var 0) x_int a1) (ad_cons x_int (ad_cons (x_sub (x_ixT (x_var 0) x_int a0) x_int) ad_nil))) ⟨xs.getD 1 .none, 1, (w : Int) - 1, rfl, rfl⟩) (fun hj => ?k1)) rfl) h)
          case k1 =>
            obtain ⟨e1, g3, g4⟩ := isW_nat hj (by decide)
            generalize intD (xs.getD 1 .none) = s at *
            rw [e1] at a1
            exact x_one (y_call F_is_whole (hr.mono (by decide)) (ad_cons (x_ixT (x_var 0) x_int a2) (ad_cons x_int (ad_cons (y_call F_turn (hr.mono (by decide)) (ad_cons (x_ixT (x_var 0) x_int a0) (ad_cons (x_ixT (x_var 0) x_int a1) ad_nil)) ⟨w, s, by omega, Nat.lt_of_le_of_lt (show w ≤ 1000 by omega) Nat.lt_two_pow_self, rfl, rfl⟩) ad_nil))) ⟨xs.getD 2 .none, 1, (tn w s : Nat), rfl, rfl⟩)
      · have hrow : isRowD (.tuple xs) = false := by
          show (xs.length == 3 && _) = _
          rw [beq_eq_false_iff_ne.mpr hl]
          rfl
        rw [hrow] at h
        refine sb_cons (s_if (k := true) (ET.cast (t_w (w_or (k := false) (ET.cast (t_not (t_val (x_isi (d := .tuple xs) (bb := true) b_isinstance b_tuple (x_var 0) PyProof.Rows.boot_tuple (kit_tuple _)))) rfl) (fun _ => w_or (k := true) (k' := true) (ET.cast (tc (c_neN (m := 3) (x_lenT b_len (x_var 0)) x_int)) (by rw [beq_eq_false_iff_ne.mpr hl]; rfl)) (fun z => nomatch z)))) rfl) (fun _ => sb_cons (s_ret x_bl h)) (fun z => nomatch z))
    | none => exact sb_cons (s_if (k := true) (ET.cast (t_w (w_or (k := true) (k' := true) (ET.cast (t_not (t_val (x_isi (d := .none) (bb := false) b_isinstance b_tuple (x_var 0) PyProof.Rows.boot_tuple (kit_tuple _)))) rfl) (fun z => nomatch z))) rfl) (fun _ => sb_cons (s_ret x_bl h)) (fun z => nomatch z))
    | bool z => exact sb_cons (s_if (k := true) (ET.cast (t_w (w_or (k := true) (k' := true) (ET.cast (t_not (t_val (x_isi (d := .bool z) (bb := false) b_isinstance b_tuple (x_var 0) PyProof.Rows.boot_tuple (kit_tuple _)))) rfl) (fun z => nomatch z))) rfl) (fun _ => sb_cons (s_ret x_bl h)) (fun z => nomatch z))
    | int z => exact sb_cons (s_if (k := true) (ET.cast (t_w (w_or (k := true) (k' := true) (ET.cast (t_not (t_val (x_isi (d := .int z) (bb := false) b_isinstance b_tuple (x_var 0) PyProof.Rows.boot_tuple (kit_tuple _)))) rfl) (fun z => nomatch z))) rfl) (fun _ => sb_cons (s_ret x_bl h)) (fun z => nomatch z))
    | str z => exact sb_cons (s_if (k := true) (ET.cast (t_w (w_or (k := true) (k' := true) (ET.cast (t_not (t_val (x_isi (d := .str z) (bb := false) b_isinstance b_tuple (x_var 0) PyProof.Rows.boot_tuple (kit_tuple _)))) rfl) (fun z => nomatch z))) rfl) (fun _ => sb_cons (s_ret x_bl h)) (fun z => nomatch z))
    | list z => exact sb_cons (s_if (k := true) (ET.cast (t_w (w_or (k := true) (k' := true) (ET.cast (t_not (t_val (x_isi (d := .list z) (bb := false) b_isinstance b_tuple (x_var 0) PyProof.Rows.boot_tuple (kit_tuple _)))) rfl) (fun z => nomatch z))) rfl) (fun _ => sb_cons (s_ret x_bl h)) (fun z => nomatch z))
    | dict z => exact sb_cons (s_if (k := true) (ET.cast (t_w (w_or (k := true) (k' := true) (ET.cast (t_not (t_val (x_isi (d := .dict z) (bb := false) b_isinstance b_tuple (x_var 0) PyProof.Rows.boot_tuple (kit_tuple _)))) rfl) (fun z => nomatch z))) rfl) (fun _ => sb_cons (s_ret x_bl h)) (fun z => nomatch z))
-- slots: 0 row
theorem f_written (H_written : Has K mg "written" s_written) (b_str : mg "str" = none) : Fn P w K mg base "written" 1 T_written := by
  refine fn_mk2 H_written sc_written (fun _ _ _ _ _ _ us hl => match us, hl with | [_], _ => rfl) ?_ ?_
  · rintro rs O Φ ⟨ds, d, rfl, ⟨w, s, m, hw, hs, hm, rfl, rfl⟩, h⟩
    rfl
  · rintro f cdv A outer s0 H E rs O Φ hr ⟨ds, d, rfl, ⟨w, s, m, hw, hs, hm, rfl, rfl⟩, h⟩
    have l1 := (len_sN hm).2
    have l2 := (len_sN hs).2
    have l3 := (len_sN hw).2
    have e1 : (" points by " : Str).length = 11 := by decide +kernel
    have e2 : (" on " : Str).length = 4 := by decide +kernel
    refine sb_cons (s_ret (x_catS (x_catS (x_catS (x_catS (x_strI (i := (m : Int)) b_str (x_ixT (x_var 0) x_int rfl) (log_small (by omega))) x_str ?a1) (x_strI (i := (s : Int)) b_str (x_ixT (x_var 0) x_int rfl) (log_small (by omega))) ?a2) x_str ?a3) (x_strI (i := (w : Int)) b_str (x_ixT (x_var 0) x_int rfl) (log_small (by omega))) ?a4) h)
    case a1 => show (sN m).length + _ ≤ _; omega
    case a2 => show (sN m ++ " points by ").length + (sN s).length ≤ _; rw [cat_len]; omega
    case a3 => show (sN m ++ " points by " ++ sN s).length + _ ≤ _; rw [cat_len, cat_len]; omega
    case a4 => show (sN m ++ " points by " ++ sN s ++ " on ").length + (sN w).length ≤ _; rw [cat_len, cat_len, cat_len]; omega
set_option maxHeartbeats 1000000 in
-- slots: 0 text, 1 words, 2 found
theorem f_read (H_read : Has K mg "read" s_read) (x_NoText : ExK K mg "NoText" (He.ga K "NoText")) (F_number_in : FnX P w K mg base "number_in" 1 (T_numX K)) (F_is_row : Fn P w K mg base "is_row" 3 T_is_row) (F_written : Fn P w K mg base "written" 1 T_written) (b_isinstance : mg "isinstance" = none) (b_str : mg "str" = none) (b_len : mg "len" = none) : FnX P w K mg base "read" 4 (T_readX K) := by
  refine fnx_mk2 H_read sc_read (fun _ _ _ _ _ _ us hl => match us, hl with | [_], _ => rfl) ?_ ?_
  · rintro rs O Φ Ξ ⟨t, ht, rfl, h1, h2⟩
    rfl
  · rintro f cdv A outer s0 H E rs O Φ Ξ hr ⟨t, ht, rfl, h1, h2⟩
    have hu := hr.units
    refine sbx_cons (sx_if (k := false) (t_not (t_val (x_isi (d := .str t) (bb := true) b_isinstance b_str (x_var 0) PyProof.Rows.boot_str (kit_str _)))) (fun z => nomatch z) (fun _ => sbx_nil ?_))
    refine sbx_cons (sgx_of (s_set 1 sc_read.nd (x_split (y := " ") (x_var 0) x_str (by decide +kernel) (by omega)) ?_))
    by_cases hl : (Txt.split t " ").length = 6
    · refine sbx_cons (sx_if (k := false) (ET.cast (tc (c_neN (m := 6) (EX.cast (x_lenL b_len (x_var 1)) (by rw [List.length_map])) x_int)) (by rw [hl]; rfl)) (fun z => nomatch z) (fun _ => sbx_nil ?_))
      obtain ⟨a, b, c, d, e, g, hw⟩ := six hl
      have la : a.length ≤ 1000 := Nat.le_trans (word_len (t := t) (by rw [hw]; simp)) (by omega)
      have ld : d.length ≤ 1000 := Nat.le_trans (word_len (t := t) (by rw [hw]; simp)) (by omega)
      have lg : g.length ≤ 1000 := Nat.le_trans (word_len (t := t) (by rw [hw]; simp)) (by omega)
      rw [hw]
      refine sbx_cons (sx_set 2 sc_read.nd (gx_tup3 (P1 := fun x => isNum g = true ∧ x = nD (valS g)) (P2 := fun x => isNum d = true ∧ x = nD (valS d)) (P3 := fun x => isNum a = true ∧ x = nD (valS a))
        (gx_call F_number_in (hr.mono (by decide)) (a_cons (x_ixL (ds := [a, b, c, d, e, g].map .str) (d := .str g) (x_var 1) x_int rfl) a_nil) ⟨g, lg, rfl, fun z => ⟨rfl, _, rfl, z, rfl⟩, fun z => h2 fun w s m R et => no_num z (by have := R.w1; omega) (parts_of hw et).2.2.2.2.2⟩)
        (fun _ _ => gx_call F_number_in (hr.mono (by decide)) (a_cons (x_ixL (ds := [a, b, c, d, e, g].map .str) (d := .str d) (x_var 1) x_int rfl) a_nil) ⟨d, ld, rfl, fun z => ⟨rfl, _, rfl, z, rfl⟩, fun z => h2 fun w s m R et => no_num z (by have := R.w1; have := R.sw; omega) (parts_of hw et).2.2.2.1⟩)
        (fun _ _ _ _ => gx_call F_number_in (hr.mono (by decide)) (a_cons (x_ixL (ds := [a, b, c, d, e, g].map .str) (d := .str a) (x_var 1) x_int rfl) a_nil) ⟨a, la, rfl, fun z => ⟨rfl, _, rfl, z, rfl⟩, fun z => h2 fun w s m R et => no_num z (by have := R.m2; omega) (parts_of hw et).1⟩)) ?_)
      rintro r O' ⟨rfl, d1, d2, d3, rfl, ⟨n1, rfl⟩, ⟨n2, rfl⟩, ⟨n3, rfl⟩⟩
      have v1 := valS_le n1
      have v2 := valS_le n2
      have v3 := valS_le n3
      refine sbx_cons (sx_if (k := !isRowD (rowD (valS g) (valS d) (valS a)) || !decide (writ (valS g) (valS d) (valS a) = t)) (t_w (w_or (t_not (t_val (y_call F_is_row (hr.mono (by decide)) (ad_cons (x_var 2) ad_nil) ⟨rowD (valS g) (valS d) (valS a), rfl, rfl⟩))) (fun _ => w_or1 (tc (c_neW (y_call F_written (hr.mono (by decide)) (ad_cons (x_var 2) ad_nil) ⟨valS g, valS d, valS a, v1, v2, v3, rfl, rfl⟩) (x_var 0)))))) (fun hk => sbx_cons (sx_raise x_NoText (h2 fun w s m R et => ?_))) (fun hk => sbx_nil (sbx_of ?_)))
      · obtain ⟨p1, _, _, p4, _, p6⟩ := parts_of hw et
        rw [p1, p4, p6, valS_sN, valS_sN, valS_sN, (isRow_nat w s m).mpr R, decide_eq_true et.symm] at hk
        cases hk
      · rw [Bool.or_eq_false_iff, Bool.not_eq_false', Bool.not_eq_false', decide_eq_true_eq] at hk
        exact sb_cons (s_ret (x_var 2) (h1 _ _ _ ((isRow_nat _ _ _).mp hk.1) hk.2.symm))
    · exact sbx_cons (sx_if (k := true) (ET.cast (tc (c_neN (m := 6) (EX.cast (x_lenL b_len (x_var 1)) (by rw [List.length_map])) x_int)) (by simp [hl])) (fun _ => sbx_cons (sx_raise x_NoText (h2 fun w s m R et => hl (six_of et)))) (fun z => nomatch z))
-- slots: 0 row, 1 k
theorem f_place (H_place : Has K mg "place" s_place) : Fn P w K mg base "place" 1 T_place := by
  refine fn_mk2 H_place sc_place (fun _ _ _ _ _ _ us hl => match us, hl with | [_, _], _ => rfl) ?_ ?_
  · rintro rs O Φ ⟨ds, d, rfl, ⟨w, s, m, k, h1, h2, h3, rfl, rfl⟩, h⟩
    rfl
  · rintro f cdv A outer s0 H E rs O Φ hr ⟨ds, d, rfl, ⟨w, s, m, k, h1, h2, h3, rfl, rfl⟩, h⟩
    refine sb_cons (s_ret (x_mod (x_mul (x_var 1) (x_ixT (x_var 0) x_int rfl) (.inr (by omega))) (x_ixT (x_var 0) x_int rfl) (by omega)) ?_)
    exact_mod_cast h
-- slots: 0 row, 1 some, 2 k, 3 here
theorem f_drawing (H_drawing : Has K mg "drawing" s_drawing) (F_place : Fn P w K mg base "place" 1 T_place) (b_range : mg "range" = none) (b_int : mg "int" = none) (i_NONE : ∃ t, mg "NONE" = some (.str "." t)) (i_POINT : ∃ t, mg "POINT" = some (.str "o" t)) : Fn P w K mg base "drawing" 2 T_drawing := by
  refine fn_mk2 H_drawing sc_drawing (fun _ _ _ _ _ _ us hl => match us, hl with | [_], _ => rfl) ?_ ?_
  · rintro rs O Φ ⟨ds, d, rfl, ⟨w, s, m, R, rfl, rfl⟩, h⟩
    rfl
  · rintro f cdv A outer s0 H E rs O Φ hr ⟨ds, d, rfl, ⟨w, s, m, R, rfl, rfl⟩, h⟩
    have hu := hr.units
    have hw0 := R.w0
    have hw1 := R.w1
    have hs1 := R.s1
    have hmw := R.mw
    refine sb_cons (s_set 1 sc_drawing.nd (r := vL ((plcs w s m).map nD)) (EX.cast (x_lc0 (xs := List.range m) [("k", 2)] [2] (fun k => [some (.d (rowD w s m)), none, some (vI (k : Nat)), none]) (fun k => nD (pl w s k)) sc_drawing.nd
      (it_rangeN (n := m) b_range (x_ixT (x_var 0) x_int rfl) (by omega)) (blkOk_by (N := n_drawing) (sc := defScope s_drawing) (by decide +kernel)) (by rw [List.length_range]; omega)
      (fun k hk _ _ _ _ _ => tg_name 2 sc_drawing.nd)
      (fun k hk O' hO _ _ _ _ _ => y_call F_place (hr.mono (by decide)) (ad_cons (x_var 0) (ad_cons (x_var 2) ad_nil)) ⟨w, s, m, k, hw0, hw1, hs1, rfl, rfl⟩)) (by unfold plcs; rw [List.map_map]; rfl)) ?_)
    have hat : ∀ k : Bool, atI ([.str ".", .str "o"] : List PyData) ((if k then 1 else 0 : Nat) : Int) = some (.str (if k = true then "o" else ".")) := fun k => by cases k <;> rfl
    refine sb_cons (s_ret (x_join (x := "") (ys := (List.range w).map fun h => if onP w s m h = true then ("o" : Str) else ".") x_str (EX.cast (x_lc0 (xs := List.range w) [("here", 3)] [3] (fun i => [some (.d (rowD w s m)), some (vL ((plcs w s m).map nD)), none, some (vI (i : Nat))]) (fun i => .str (if onP w s m i = true then "o" else ".")) sc_drawing.nd
      (it_rangeN (n := w) b_range (x_ixT (x_var 0) x_int rfl) (by omega)) (blkOk_by (N := n_drawing) (sc := defScope s_drawing) (by decide +kernel)) (by rw [List.length_range]; omega)
      (fun k hk _ _ _ _ _ => tg_name 3 sc_drawing.nd)
      (fun i hi O' hO _ _ _ _ _ => x_ixL (y_lst (ad_cons (x_globS i_NONE) (ad_cons (x_globS i_POINT) ad_nil))) (x_intB b_int (xc (c_inLN (x_var 3) (x_var 1)))) (hat (onP w s m i)))) (by rw [List.map_map]; rfl)) ?a1) h)
    case a1 =>
      rw [drS_sum, List.length_map, List.length_range]
      have : ("" : Str).length = 0 := by decide +kernel
      rw [this]
      omega
-- slots: 0 text, 1 here, 2 sign
theorem f_points_of (H_points_of : Has K mg "points_of" s_points_of) (b_tuple : mg "tuple" = none) (b_enumerate : mg "enumerate" = none) (i_POINT : ∃ t, mg "POINT" = some (.str "o" t)) : Fn P w K mg base "points_of" 1 T_points_of := by
  refine fn_mk2 H_points_of sc_points_of (fun _ _ _ _ _ _ us hl => match us, hl with | [_], _ => rfl) ?_ ?_
  · rintro rs O Φ ⟨ds, d, rfl, ⟨w, p, hw, rfl, rfl⟩, h⟩
    rfl
  · rintro f cdv A outer s0 H E rs O Φ hr ⟨ds, d, rfl, ⟨w, p, hw, rfl, rfl⟩, h⟩
    have hu := hr.units
    exact sb_cons (s_ret (x_tuple b_tuple (x_lc (xs := List.range w) [("here", 1), ("sign", 2)] [1, 2] (fun i => [some (vS (drS w p)), some (vI (i : Nat)), some (vS (chS (drS w p) i))]) p (fun i => nD i) sc_points_of.nd
      (IT.as (k := fun i => vT [.int (i : Nat), .str (chS (drS w p) i)]) (it_enumS b_enumerate (x_var 0)) (by rw [drS_len])) (blkOk_by (N := n_points_of) (sc := defScope s_points_of) (by decide +kernel)) (by rw [List.length_range]; omega)
      (fun i hi _ _ _ _ _ => tg_tup rfl (tgs_cons (tg_name 1 sc_points_of.nd) (tgs_cons (tg_name 2 sc_points_of.nd) tgs_nil)))
      (fun i hi O' hO _ _ _ _ _ => tc (CX1.cast (c_eqW (x_var 2) (x_globS i_POINT)) (drS_pt p (List.mem_range.mp hi))))
      (fun i hi _ O' hO _ _ _ _ _ => x_var 1))) h)
set_option maxHeartbeats 1000000 in
-- slots: 0 word, 1 sign
theorem f__law_number (H__law_number : Has K mg "_law_number" s__law_number) (b_len : mg "len" = none) (b_int : mg "int" = none) : Fn P w K mg base "_law_number" 1 T_lnum := by
  refine fn_mk2 H__law_number sc__law_number (fun _ _ _ _ _ _ us hl => match us, hl with | [_], _ => rfl) ?_ ?_
  · rintro rs O Φ ⟨ds, d, rfl, ⟨x, hx, ok, rfl, rfl⟩, h⟩
    rfl
  · rintro f cdv A outer s0 H E rs O Φ hr ⟨ds, d, rfl, ⟨x, hx, ok, rfl, rfl⟩, h⟩
    have hu := hr.units
    have hlen : x.length = (tl x).length := len_tl x
    have hemp : (tl ("" : Str)) = [] := by decide +kernel
    have hc0 : ¬ x = "" → atI (tl x) 0 = some ((tl x).headD 0) := fun hn => by
      cases e : tl x with
      | nil => exact absurd (ext_tl (e.trans hemp.symm)) hn
      | cons a l => exact atI_nat (j := 0) rfl
    have key : (decide (x = "") || (decide (3 < x.length) || (decide ((tl x).headD 0 = 48) || !(((List.range x.length).filter fun i => !decide (48 ≤ (tl x).getD i 0 ∧ (tl x).getD i 0 ≤ 57)).map fun i => PyData.str (chS x i)).isEmpty))) = false ↔ (isNum x = true ∧ (tl x).head? ≠ some 48) := by
      rw [isNum_iff]
      simp only [Bool.or_eq_false_iff, decide_eq_false_iff_not, Bool.not_eq_false', List.isEmpty_iff, List.map_eq_nil_iff, List.filter_eq_nil_iff, List.mem_range]
      constructor
      · rintro ⟨h1, h2, h3, h4⟩
        have hne : tl x ≠ [] := fun e => h1 (ext_tl (e.trans hemp.symm))
        have hp : 1 ≤ x.length := by
          rw [hlen]
          cases e : tl x with
          | nil => exact absurd e hne
          | cons _ _ => exact Nat.le_add_left _ _
        refine ⟨⟨hp, by omega, fun c hc => ?_⟩, fun z => h3 ?_⟩
        · obtain ⟨i, hi, e⟩ := List.getElem_of_mem hc
          have := h4 i (by omega)
          rw [List.getD_eq_getElem?_getD, List.getElem?_eq_getElem hi] at this
          have this : ¬ ((!decide (48 ≤ (tl x)[i] ∧ (tl x)[i] ≤ 57)) = true) := this
          rw [e] at this
          simpa using this
        · cases e : tl x with
          | nil => exact absurd e hne
          | cons a l =>
            rw [e] at z
            exact Option.some.inj z
      · rintro ⟨⟨h1, h2, h3⟩, h4⟩
        refine ⟨fun e => ?_, by omega, fun z => ?_, fun i hi => ?_⟩
        · rw [hlen, e, hemp] at h1
          exact absurd h1 (by decide)
        · cases e : tl x with
          | nil => rw [hlen, e] at h1; exact absurd h1 (by decide)
          | cons a l =>
            rw [e] at z h4
            exact h4 (congrArg some z)
        · have hi2 : i < (tl x).length := by omega
          rw [List.getD_eq_getElem?_getD, List.getElem?_eq_getElem hi2]
          have := h3 _ (List.getElem_mem hi2)
          show ¬ ((!decide (48 ≤ (tl x)[i] ∧ (tl x)[i] ≤ 57)) = true)
          rw [decide_eq_true this]
          exact Bool.false_ne_true
    refine sb_cons (s_if (k := decide (x = "") || (decide (3 < x.length) || (decide ((tl x).headD 0 = 48) || !(((List.range x.length).filter fun i => !decide (48 ≤ (tl x).getD i 0 ∧ (tl x).getD i 0 ≤ 57)).map fun i => PyData.str (chS x i)).isEmpty))) (t_w (w_or (tc (c_eqW (x_var 0) x_str)) (fun hn => w_or (tc (c_gtN (m := 3) (x_lenS' b_len (x_var 0) (by omega)) x_int)) (fun _ => w_or (tc (CX1.cast (c_eqW (x_ixS' (x_var 0) x_int (hc0 (of_decide_eq_false hn)) (by omega)) x_str) (one_eq _))) (fun _ => w_or1 (ET.cast (tc (c_neD (x_lc (xs := List.range x.length) [("sign", 1)] [1] (fun i => [some (vS x), some (vS (chS x i))]) (fun i => !decide (48 ≤ (tl x).getD i 0 ∧ (tl x).getD i 0 ≤ 57)) (fun i => .str (chS x i)) sc__law_number.nd
      (it_str (x_var 0)) (blkOk_by (N := n__law_number) (sc := defScope s__law_number) (by decide +kernel)) (by rw [List.length_range]; omega)
      (fun i hi _ _ _ _ _ => tg_name 1 sc__law_number.nd)
      (fun i hi O' hO _ _ _ _ _ => ET.cast (t_not (t_chainS x_str (x_var 1) x_str)) (dig_dec ((tl x).getD i 0)))
      (fun i hi _ O' hO _ _ _ _ _ => x_var 1)) (y_lst ad_nil) ?a1 rfl)) ?a2)))))) (fun hk => ?b1) (fun hk => sb_nil ?b2))
    case a1 =>
      refine shaped_of (n := 8) (sh_lst (n := 7) fun y hy => ?_) (by decide)
      obtain ⟨i, hi, rfl⟩ := List.mem_map.mp hy
      have hi := List.mem_range.mp (List.mem_filter.mp hi).1
      refine sh_str fun c hc => ?_
      have hc : c ∈ [(tl x).getD i 0] := hc
      rw [List.mem_singleton.mp hc, List.getD_eq_getElem?_getD, List.getElem?_eq_getElem (by omega)]
      exact ok _ (List.getElem_mem _)
    case a2 =>
      congr 1
      generalize (((List.range x.length).filter fun i => !decide (48 ≤ (tl x).getD i 0 ∧ (tl x).getD i 0 ≤ 57)).map fun i => PyData.str (chS x i)) = l
      cases l <;> rfl
    case b1 =>
      have hn : ¬ (isNum x = true ∧ (tl x).head? ≠ some 48) := fun z => by rw [key.mpr z] at hk; cases hk
      unfold lnum at h
      rw [if_neg hn] at h
      exact sb_cons (s_ret x_non h)
    case b2 =>
      have hn := key.mp hk
      unfold lnum at h
      rw [if_pos hn] at h
      have hl := (isNum_iff.mp hn.1).2.1
      exact sb_cons (s_ret (x_intS b_int (x_var 0) (int_valS hn.1) (by omega)) h)
set_option maxHeartbeats 1000000 in
-- slots: 0 text, 1 words, 2 row
theorem f__law_due (H__law_due : Has K mg "_law_due" s__law_due) (F__law_number : Fn P w K mg base "_law_number" 1 T_lnum) (F__law_turn : Fn P w K mg base "_law_turn" 1 T__law_turn) (b_len : mg "len" = none) : Fn P w K mg base "_law_due" 2 T_due := by
  refine fn_mk2 H__law_due sc__law_due (fun _ _ _ _ _ _ us hl => match us, hl with | [_], _ => rfl) ?_ ?_
  · rintro rs O Φ ⟨t, ht, ok, rfl, h1, h2⟩
    rfl
  · rintro f cdv A outer s0 H E rs O Φ hr ⟨t, ht, ok, rfl, h1, h2⟩
    have hu := hr.units
    refine sb_cons (s_set 1 sc__law_due.nd (x_split (y := " ") (x_var 0) x_str (by decide +kernel) (by omega)) ?_)
    by_cases hl : (Txt.split t " ").length = 6
    · obtain ⟨a, b, c, d, e, g, hw⟩ := six hl
      have mem : ∀ x ∈ [a, b, c, d, e, g], x.length ≤ 1000 ∧ okC x := fun x hx => by
        rw [← hw] at hx
        exact ⟨Nat.le_trans (word_len hx) (by omega), word_ok ok hx⟩
      obtain ⟨la, oa⟩ := mem a (by simp)
      obtain ⟨lb, ob⟩ := mem b (by simp)
      obtain ⟨lc, oc⟩ := mem c (by simp)
      obtain ⟨ld, od⟩ := mem d (by simp)
      obtain ⟨lg, og⟩ := mem g (by simp)
      rw [hw]
      have shp : SeqAt.shaped (.list [.str b, .str c]) = true := shaped_of (n := 8) (sh_lst (n := 7) fun y hy => by
        simp only [List.mem_cons, List.not_mem_nil, or_false] at hy
        rcases hy with rfl | rfl
        · exact sh_str ob
        · exact sh_str oc) (by decide)
      refine sb_cons (s_if (k := !(b == "points" && (c == "by" && true)) || !decide (e = "on")) (ET.cast (t_w (w_or (k := false) (tc (CX1.cast (c_neN (n := 6) (m := 6) (EX.cast (x_lenL b_len (x_var 1)) rfl) x_int) rfl)) (fun _ => w_or (tc (c_neD (d := .list [.str b, .str c]) (d' := .list [.str "points", .str "by"]) (EX.cast (x_slL (ds := [a, b, c, d, e, g].map .str) (x_var 1) (.some x_int) (.some x_int)) rfl) (y_lst (ad_cons x_str (ad_cons x_str ad_nil))) shp (by decide +kernel))) (fun _ => w_or1 (tc (c_neW (x_ixL (ds := [a, b, c, d, e, g].map .str) (d := .str e) (x_var 1) x_int rfl) x_str)))))) rfl) (fun hk => ?b1) (fun hk => sb_nil ?b2))
      case b1 =>
        refine sb_cons (s_ret (y_tup (ad_cons x_str (ad_cons x_bl ad_nil))) (h2 fun w s m R et => ?_))
        obtain ⟨_, p2, p3, _, p5, _⟩ := parts_of hw et
        rw [p2, p3, p5] at hk
        revert hk
        decide +kernel
      case b2 =>
        rw [Bool.or_eq_false_iff, Bool.not_eq_false', Bool.not_eq_false', Bool.and_eq_true, Bool.and_eq_true, decide_eq_true_eq] at hk
        obtain ⟨⟨e1, e2, _⟩, e3⟩ := hk
        have e1 : b = "points" := by simpa using e1
        have e2 : c = "by" := by simpa using e2
        subst e1
        subst e2
        subst e3
        refine sb_cons (s_set 2 sc__law_due.nd (r := vT ([lnum g, lnum d, lnum a].map oD)) (y_tup (ad_cons (y_call F__law_number (hr.mono (by decide)) (ad_cons (x_ixL (ds := [a, "points", "by", d, "on", g].map .str) (d := .str g) (x_var 1) x_int rfl) ad_nil) ⟨g, lg, og, rfl, rfl⟩) (ad_cons (y_call F__law_number (hr.mono (by decide)) (ad_cons (x_ixL (ds := [a, "points", "by", d, "on", g].map .str) (d := .str d) (x_var 1) x_int rfl) ad_nil) ⟨d, ld, od, rfl, rfl⟩) (ad_cons (y_call F__law_number (hr.mono (by decide)) (ad_cons (x_ixL (ds := [a, "points", "by", d, "on", g].map .str) (d := .str a) (x_var 1) x_int rfl) ad_nil) ⟨a, la, oa, rfl, rfl⟩) ad_nil)))) ?_)
        have refuse : (∀ w s m, Row1 w s m → t ≠ writ w s m) → Φ (vT [.str "refused", .bool true]) O := h2
        by_cases hn : [lnum g, lnum d, lnum a].any Option.isNone = true
        · refine sb_cons (s_if (k := true) (ET.cast (t_w (w_or (k' := false) (tc (c_inN (ds := [lnum g, lnum d, lnum a]) x_non (x_var 2))) (fun z => by rw [hn] at z; cases z))) (by rw [hn]; rfl)) (fun _ => sb_cons (s_ret (y_tup (ad_cons x_str (ad_cons x_bl ad_nil))) (h2 fun w s m R et => ?_))) (fun z => nomatch z))
          obtain ⟨p1, _, _, p4, _, p6⟩ := parts_of hw et
          have := R.w1
          have := R.w2
          have := R.s0
          have := R.sw
          have := R.m0
          have := R.m2
          rw [p1, p4, p6, lnum_sN (n := w) (by omega) (by omega), lnum_sN (n := s) (by omega) (by omega), lnum_sN (n := m) (by omega) (by omega)] at hn
          cases hn
        · obtain ⟨w, hgw⟩ : ∃ w, lnum g = some w := by
            cases q : lnum g with
            | none => rw [q] at hn; exact absurd rfl hn
            | some w => exact ⟨w, rfl⟩
          obtain ⟨s, hds⟩ : ∃ s, lnum d = some s := by
            cases q : lnum d with
            | none => rw [hgw, q] at hn; exact absurd rfl hn
            | some w => exact ⟨w, rfl⟩
          obtain ⟨m, ham⟩ : ∃ m, lnum a = some m := by
            cases q : lnum a with
            | none => rw [hgw, hds, q] at hn; exact absurd rfl hn
            | some w => exact ⟨w, rfl⟩
          obtain ⟨q1, v1⟩ := lnum_some hgw
          obtain ⟨q2, v2⟩ := lnum_some hds
          obtain ⟨q3, v3⟩ := lnum_some ham
          have same : ∀ w' s' m', Row1 w' s' m' → t = writ w' s' m' → Row1 w s m := fun w' s' m' R et => by
            obtain ⟨p1, _, _, p4, _, p6⟩ := parts_of hw et
            obtain rfl := sN_inj (q1.symm.trans p6)
            obtain rfl := sN_inj (q2.symm.trans p4)
            obtain rfl := sN_inj (q3.symm.trans p1)
            exact R
          have back : t = writ w s m := writ_of (by rw [hw, q1, q2, q3])
          rw [hgw, hds, ham]
          refine sb_cons (s_if (k := !(decide ((2 : Int) ≤ w) && decide ((w : Int) ≤ 120)) || !(decide ((1 : Int) ≤ s) && decide ((s : Int) < w))) (ET.cast (t_w (w_or (k := false) (tc (c_inN (ds := [some w, some s, some m]) x_non (x_var 2))) (fun _ => w_or (t_not (t_chain op_le op_le x_int (x_ixT (d := nD w) (x_var 2) x_int rfl) x_int)) (fun _ => w_or1 (t_not (t_chain op_le op_lt x_int (x_ixT (d := nD s) (x_var 2) x_int rfl) (x_ixT (d := nD w) (x_var 2) x_int rfl))))))) rfl) (fun hk => ?c1) (fun hk => sb_nil ?c2))
          case c1 =>
            refine sb_cons (s_ret (y_tup (ad_cons x_str (ad_cons x_bl ad_nil))) (h2 fun w' s' m' R' et => ?_))
            have R := same w' s' m' R' et
            have r1 := R.w1
            have r2 := R.w2
            have r3 := R.s0
            have r4 := R.sw
            rw [decide_eq_true (show (2 : Int) ≤ w by omega), decide_eq_true (show (w : Int) ≤ 120 by omega), decide_eq_true (show (1 : Int) ≤ s by omega), decide_eq_true (show (s : Int) < w by omega)] at hk
            cases hk
          case c2 =>
            rw [Bool.or_eq_false_iff, Bool.not_eq_false', Bool.not_eq_false', Bool.and_eq_true, Bool.and_eq_true, decide_eq_true_eq, decide_eq_true_eq, decide_eq_true_eq, decide_eq_true_eq] at hk
            obtain ⟨⟨k1, k2⟩, k3, k4⟩ := hk
            refine sb_cons (s_if (k := !(decide ((1 : Int) ≤ m) && decide ((m : Int) ≤ (tn w s : Nat)))) (t_not (t_chain op_le op_le x_int (x_ixT (d := nD m) (x_var 2) x_int rfl) (y_call F__law_turn (hr.mono (by decide)) (ad_cons (x_ixT (d := nD w) (x_var 2) x_int rfl) (ad_cons (x_ixT (d := nD s) (x_var 2) x_int rfl) ad_nil)) ⟨w, s, by omega, by omega, by omega, rfl, rfl⟩))) (fun hk => ?d1) (fun hk => sb_nil ?d2))
            case d1 =>
              refine sb_cons (s_ret (y_tup (ad_cons x_str (ad_cons x_bl ad_nil))) (h2 fun w' s' m' R' et => ?_))
              have R := same w' s' m' R' et
              have r1 := R.m0
              have r2 := R.m1
              rw [decide_eq_true (show (1 : Int) ≤ m by omega), decide_eq_true (show (m : Int) ≤ (tn w s : Nat) by omega)] at hk
              cases hk
            case d2 =>
              rw [Bool.not_eq_false', Bool.and_eq_true, decide_eq_true_eq, decide_eq_true_eq] at hk
              have R : Row1 w s m := ⟨by omega, by omega, by omega, by omega, by omega, by omega⟩
              exact sb_cons (s_ret (y_tup (ad_cons x_str (ad_cons (x_var 2) ad_nil))) (h1 w s m R back))
    · refine sb_cons (s_if (k := true) (ET.cast (t_w (w_or (k := true) (k' := false) (ET.cast (tc (c_neN (m := 6) (EX.cast (x_lenL b_len (x_var 1)) (by rw [List.length_map])) x_int)) (by simp [hl])) (fun z => nomatch z))) rfl) (fun _ => sb_cons (s_ret (y_tup (ad_cons x_str (ad_cons x_bl ad_nil))) (h2 fun w s m R et => hl (six_of et)))) (fun z => nomatch z))
set_option maxHeartbeats 1000000 in
-- slots: 0 text, 1 number, 2 at, 3 sign, 4 kind, 5 words
theorem f__law_changed (H__law_changed : Has K mg "_law_changed" s__law_changed) (b_len : mg "len" = none) : Fn P w K mg base "_law_changed" 1 T_chgT := by
  refine fn_mk2 H__law_changed sc__law_changed (fun _ _ _ _ _ _ us hl => match us, hl with | [_, _], _ => rfl) ?_ ?_
  · rintro rs O Φ ⟨t, n, ht, ok, rfl, h⟩
    rfl
  · rintro f cdv A outer s0 H E rs O Φ hr ⟨t, n, ht, ok, rfl, h⟩
    have hu := hr.units
    refine sb_cons (s_set 2 sc__law_changed.nd (x_modN (x_fdivN (m := 8) (x_var 1) x_int (by decide) (by decide)) (x_addN (m := 1) (x_lenS' b_len (x_var 0) (by omega)) x_int) (by omega)) ?_)
    have hat : n / 8 % (t.length + 1) ≤ t.length := Nat.lt_succ_iff.mp (Nat.mod_lt _ (by omega))
    generalize n / 8 % (t.length + 1) = k at hat ⊢
    obtain ⟨c, hc, hc2⟩ : ∃ c, atI (tl ("0123456789 obn-a" : Str)) ((n / 1024 % 16 : Nat) : Int) = some c ∧ c < 0x110000 := by
      have e : tl ("0123456789 obn-a" : Str) = [48, 49, 50, 51, 52, 53, 54, 55, 56, 57, 32, 111, 98, 110, 45, 97] := by decide +kernel
      have hm : n / 1024 % 16 < 16 := Nat.mod_lt _ (by decide)
      have hlt : n / 1024 % 16 < (tl ("0123456789 obn-a" : Str)).length := by rw [e]; exact hm
      refine ⟨(tl ("0123456789 obn-a" : Str))[n / 1024 % 16], atI_nat (List.getElem?_eq_getElem hlt), ?_⟩
      have hall : ∀ x ∈ tl ("0123456789 obn-a" : Str), x < 0x110000 := by rw [e]; decide
      exact hall _ (List.getElem_mem hlt)
    refine sb_cons (s_set 3 sc__law_changed.nd (x_ixS' (x := "0123456789 obn-a") x_str (x_modN (m := 16) (x_fdivN (m := 1024) (x_var 1) x_int (by decide) (by decide)) x_int (by decide)) hc (by decide +kernel)) ?_)
    refine sb_cons (s_set 4 sc__law_changed.nd (x_modN (m := 6) (x_var 1) x_int (by decide)) ?_)
    have lc : (⟨#[c]⟩ : Str).length = 1 := rfl
    have okc : okC ⟨#[c]⟩ := fun x hx => by
      have hx : x ∈ [c] := hx
      rw [List.mem_singleton.mp hx]
      exact hc2
    have a0 := cl_to t k
    have a1 := cl_from t (k + 1)
    have a2 := cl_from t k
    have a3 := cl_both t k (k + 1)
    have a4 := cl_both t k (k + 2)
    have a5 := cl_from t (k + 2)
    have a6 := (revS_ok (cutS t (some (k : Int)) (some ((k + 2 : Nat) : Int)))).1
    have sp : (" " : Str).length = 1 := by decide +kernel
    have hz : t.length ≤ 100000 := by omega
    refine sb_cons (s_if (k := n % 6 == 0) (tc (c_eqN (n := n % 6) (m := 0) (x_var 4) x_int)) (fun _ => ?b0) (fun _ => sb_nil ?_))
    case b0 => exact sb_cons (s_ret (x_catS (x_slS (x_var 0) .none (.some (x_var 2)) hz) (x_slS (x_var 0) (.some (x_addN (m := 1) (x_var 2) x_int)) .none hz) (by omega)) (h _ (by rw [cat_len]; omega) (cat_ok (cut_ok _ _ ok) (cut_ok _ _ ok))))
    refine sb_cons (s_if (k := n % 6 == 1) (tc (c_eqN (n := n % 6) (m := 1) (x_var 4) x_int)) (fun _ => ?b1) (fun _ => sb_nil ?_))
    case b1 => exact sb_cons (s_ret (x_catS (x_catS (x_slS (x_var 0) .none (.some (x_var 2)) hz) (x_slS (x_var 0) (.some (x_var 2)) (.some (x_addN (m := 1) (x_var 2) x_int)) hz) (by omega)) (x_slS (x_var 0) (.some (x_var 2)) .none hz) (by rw [cat_len]; omega)) (h _ (by rw [cat_len, cat_len]; omega) (cat_ok (cat_ok (cut_ok _ _ ok) (cut_ok _ _ ok)) (cut_ok _ _ ok))))
    refine sb_cons (s_if (k := n % 6 == 2) (tc (c_eqN (n := n % 6) (m := 2) (x_var 4) x_int)) (fun _ => ?b2) (fun _ => sb_nil ?_))
    case b2 => exact sb_cons (s_ret (x_catS (x_catS (x_slS (x_var 0) .none (.some (x_var 2)) hz) (x_var 3) (by omega)) (x_slS (x_var 0) (.some (x_addN (m := 1) (x_var 2) x_int)) .none hz) (by rw [cat_len]; omega)) (h _ (by rw [cat_len, cat_len]; omega) (cat_ok (cat_ok (cut_ok _ _ ok) okc) (cut_ok _ _ ok))))
    refine sb_cons (s_if (k := n % 6 == 3) (tc (c_eqN (n := n % 6) (m := 3) (x_var 4) x_int)) (fun _ => ?b3) (fun _ => sb_nil ?_))
    case b3 => exact sb_cons (s_ret (x_catS (x_catS (x_slS (x_var 0) .none (.some (x_var 2)) hz) (x_var 3) (by omega)) (x_slS (x_var 0) (.some (x_var 2)) .none hz) (by rw [cat_len]; omega)) (h _ (by rw [cat_len, cat_len]; omega) (cat_ok (cat_ok (cut_ok _ _ ok) okc) (cut_ok _ _ ok))))
    refine sb_cons (s_if (k := n % 6 == 4) (tc (c_eqN (n := n % 6) (m := 4) (x_var 4) x_int)) (fun _ => ?b4) (fun _ => sb_nil ?_))
    case b4 => exact sb_cons (s_ret (x_catS (x_catS (x_slS (x_var 0) .none (.some (x_var 2)) hz) (x_revS (x_slS (x_var 0) (.some (x_var 2)) (.some (x_addN (m := 2) (x_var 2) x_int)) hz) (by omega)) (by omega)) (x_slS (x_var 0) (.some (x_addN (m := 2) (x_var 2) x_int)) .none hz) (by rw [cat_len]; omega)) (h _ (by rw [cat_len, cat_len]; omega) (cat_ok (cat_ok (cut_ok _ _ ok) (rev_ok (cut_ok _ _ ok))) (cut_ok _ _ ok))))
    refine sb_cons (s_set 5 sc__law_changed.nd (x_split (y := " ") (x_var 0) x_str (by decide +kernel) hz) ?_)
    have hsum := split_sum t
    have hpos : 0 < (Txt.split t " ").length := by
      have := split_ne t
      cases e : Txt.split t " " with
      | nil => exact absurd e this
      | cons _ _ => exact Nat.succ_pos _
    refine sb_cons (s_set 2 sc__law_changed.nd (x_modN (x_fdivN (m := 8) (x_var 1) x_int (by decide) (by decide)) (EX.cast (x_lenL b_len (x_var 5)) (by rw [List.length_map])) hpos) ?_)
    generalize n / 8 % (Txt.split t " ").length = j
    obtain ⟨w1, w2, w3⟩ := turn_words (t := t) j ok
    refine sb_cons (s_ret (x_join (x := " ") (ys := (Txt.split t " ").take j ++ (((Txt.split t " ").drop j).take 2).reverse ++ (Txt.split t " ").drop (j + 2)) x_str (EX.cast (x_catL (x_catL (x_slL (x_var 5) .none (.some (x_var 2))) (x_revL (x_slL (x_var 5) (.some (x_var 2)) (.some (x_addN (m := 2) (x_var 2) x_int)))) ?e1) (x_slL (x_var 5) (.some (x_addN (m := 2) (x_var 2) x_int)) .none) ?e2) ?e3) ?e4) (h _ w2 w3))
    case e1 =>
      rw [cutD_to, cutD_both, List.length_take, List.length_reverse, List.length_take, List.length_map]
      omega
    case e2 =>
      simp only [cutD_to, cutD_both, cutD_from, List.length_append, List.length_take, List.length_reverse, List.length_drop, List.length_map]
      omega
    case e3 => rw [cutD_to, cutD_both, cutD_from, List.map_append, List.map_append, List.map_reverse, List.map_take, List.map_take, List.map_drop, List.map_drop]
    case e4 =>
      rw [sp, Nat.mul_one]
      exact Nat.le_trans (Nat.le_of_eq w1) (by omega)
-- slots: 0 number, 1 k, 2 drawn
theorem f__law_drawn (H__law_drawn : Has K mg "_law_drawn" s__law_drawn) : Fn P w K mg base "_law_drawn" 1 T__law_drawn := by
  refine fn_mk2 H__law_drawn sc__law_drawn (fun _ _ _ _ _ _ us hl => match us, hl with | [_, _], _ => rfl) ?_ ?_
  · rintro rs O Φ ⟨ds, d, rfl, ⟨n, k, rfl, rfl⟩, h⟩
    rfl
  · rintro f cdv A outer s H E rs O Φ hr ⟨ds, d, rfl, ⟨n, k, rfl, rfl⟩, h⟩
    have hd : drawD n k < 2147483647 := Nat.mod_lt _ (by decide)
    have e1 : (((n : Int) + 104729 * k + 17) * 69621 % 2147483647) = (drawD n k : Int) := by unfold drawD; simp only [Int.natCast_emod, Int.natCast_mul, Int.natCast_add, Int.cast_ofNat_Int]
    refine sb_cons (s_set 2 sc__law_drawn.nd (r := vI (drawD n k)) ((x_mod (x_mul (x_add (x_add (x_var 0) (x_mul x_int (x_var 1) (.inl (by decide)))) x_int) x_int (.inr (by decide))) x_int (by decide)).cast (by rw [e1])) ?_)
    refine sb_cons (s_ret (x_mod (x_add (x_add (x_mul (x_var 2) (x_var 2) (.inl (by omega))) (x_mul x_int (x_var 2) (.inl (by decide)))) (x_var 1)) x_int (by decide)) ?_)
    have e2 : (((drawD n k : Int) * drawD n k + 3 * drawD n k + k) % 2147483629) = (drawN n k : Int) := by unfold drawN; simp only [Int.natCast_emod, Int.natCast_mul, Int.natCast_add, Int.cast_ofNat_Int]
    rw [e2]
    exact h
set_option maxHeartbeats 4000000 in
-- slots: 0 script, 1 number, 2 row, 3 text, 4 some, 5 k, 6 signs, 7 here
theorem f_law {f : Addr} {fd : FuncData} (D_law : FunD K "law" "law" (defArgs s_law) (defBody s_law) (defScope s_law) [] [] f fd) (TB : LamX.TabB base mg cT PT) (k_NoText : KindC K (He.ga K "NoText") 3) (F__law_mixed : Fn P w K mg base "_law_mixed" 2 T__law_mixed) (F__law_row : Fn P w K mg base "_law_row" 2 T__law_row) (F__law_told : ∀ k, FnL P w K mg base "_law_told" k (T_told K)) (F_read : FnX P w K mg base "read" 4 (T_readX K)) (F_written : Fn P w K mg base "written" 1 T_written) (F_drawing : Fn P w K mg base "drawing" 2 T_drawing) (F_points_of : Fn P w K mg base "points_of" 1 T_points_of) (F__law_due : Fn P w K mg base "_law_due" 2 T_due) (F__law_changed : Fn P w K mg base "_law_changed" 1 T_chgT) (F__law_drawn : Fn P w K mg base "_law_drawn" 1 T__law_drawn) (b_range : mg "range" = none) (b_str : mg "str" = none) (b_sorted : mg "sorted" = none) (b_tuple : mg "tuple" = none) (b_int : mg "int" = none) (hcT : fd.code = .ref cT) : FnOk P w K mg base CX0 14 f fd ["script"] (spOf K (T_lawT PT "law.<locals>.<lambda>")) := by
  refine fn_atT D_law hcT sc_law ?_ ?_
  · rintro rs O Φ ⟨ns, h1, rfl, h2⟩
    rfl
  · rintro f A outer s0 H E rs O Φ hr ⟨ns, hlen, rfl, rfl, h⟩
    have hu := hr.units
    refine sb_cons (s_set 1 sc_law.nd (g_call F__law_mixed (hr.mono (by decide)) (a_cons (x_var 0) (a_cons x_int a_nil)) ⟨ns, 0, rfl, rfl, rfl⟩) ?_)
    have R := pr_row (n := mixN ns 1) (most := 120) (by decide) (by decide)
    have hwb := prW_b (n := mixN ns 1) (most := 120) (by decide)
    refine sb_cons (s_set 2 sc_law.nd (y_call F__law_row (hr.mono (by decide)) (ad_cons (g_call F__law_mixed (hr.mono (by decide)) (a_cons (x_var 0) (a_cons x_int a_nil)) ⟨ns, 1, rfl, rfl, rfl⟩) (ad_cons x_int ad_nil)) ⟨mixN ns 1, 120, by decide, by decide, rfl, rfl⟩) ?_)
    generalize mixN ns 0 = N
    generalize prW (mixN ns 1) 120 = w, prS (mixN ns 1) 120 = s, prM (mixN ns 1) 120 = m at R hwb ⊢
    have hw0 := R.w0
    have hs0 := R.s0
    have hsw := R.sw
    have hm0 := R.m0
    have hm1 := R.m1
    have hmw := R.mw
    have R1 : Row1 w s m := ⟨hwb.1, hwb.2, hs0, hsw, hm0, hm1⟩
    have l1 := (len_sN (n := m) (by omega)).2
    have l2 := (len_sN (n := s) (by omega)).2
    have l3 := (len_sN (n := w) (by omega)).2
    have e1 : (" points by " : Str).length = 11 := by decide +kernel
    have e2 : (" on " : Str).length = 4 := by decide +kernel
    refine sb_cons (s_set 3 sc_law.nd (r := vS (writ w s m)) (x_catS (x_catS (x_catS (x_catS (x_strI (i := (m : Int)) b_str (x_ixT (x_var 2) x_int rfl) (log_small (by omega))) x_str ?a1) (x_strI (i := (s : Int)) b_str (x_ixT (x_var 2) x_int rfl) (log_small (by omega))) ?a2) x_str ?a3) (x_strI (i := (w : Int)) b_str (x_ixT (x_var 2) x_int rfl) (log_small (by omega))) ?a4) ?_)
    case a1 => show (sN m).length + _ ≤ _; omega
    case a2 => show (sN m ++ " points by ").length + (sN s).length ≤ _; rw [cat_len]; omega
    case a3 => show (sN m ++ " points by " ++ sN s).length + _ ≤ _; rw [cat_len, cat_len]; omega
    case a4 => show (sN m ++ " points by " ++ sN s ++ " on ").length + (sN w).length ≤ _; rw [cat_len, cat_len, cat_len]; omega
    have hwl := writ_len (w := w) (s := s) (m := m) (by omega) (by omega) (by omega)
    refine sb_skip (t_w (w_or (k := false) (k' := false) (tc (CX1.cast (c_neW (y_call F_written (hr.mono (by decide)) (ad_cons (x_var 2) ad_nil) ⟨w, s, m, by omega, by omega, by omega, rfl, rfl⟩) (x_var 3)) (by simp))) (fun _ => w_or1 (tc (c_neF (d := .tuple [.str "told", rowD w s m]) (g_lam (j := 10) (Φ := is1 (.d (rowD w s m)) [(PT, OO.tab "law.<locals>.<lambda>")]) (Ξ := fun _ _ => False) (Ψ := is1 (.d (.tuple [.str "told", rowD w s m])) [(PT, OO.tab "law.<locals>.<lambda>")]) (F__law_told _) (hr.mono (by decide)) TB rfl List.mem_cons_self (LamX.lamS_by (sc := defScope s_law) (by decide +kernel)) (a_cons x_int a_nil) ⟨3, rfl, fun r O' ⟨e1, e2⟩ => ⟨_, e1, rfl, e2⟩, fun _ _ z => z.elim⟩ (fun A1 outer1 s1 H1 Ex1 f1 c1 hr2 => gx_call F_read (hr2.mono (by decide)) (a_cons (x_var 3) a_nil) ⟨writ w s m, by omega, rfl, fun w' s' m' R' et => (by obtain ⟨q1, q2, q3⟩ := writ_inj et; subst q1; subst q2; subst q3; exact ⟨rfl, rfl⟩), fun hno => (hno w s m R1 rfl).elim⟩)) (y_tup (ad_cons x_str (ad_cons (x_var 2) ad_nil))) (sh_told (sh_rowD _ _ _ _))))))) ?_
    obtain ⟨hperm, hsort⟩ := plcs_sort (w := w) (s := s) (m := m) hw0 hm1
    refine sb_cons (s_set 4 sc_law.nd (x_sortedN (ns := plcs w s m) (ns' := (List.range w).filter (onP w s m)) b_sorted (EX.cast (x_lc0 (xs := List.range m) [("k", 5)] [5] (fun k => [some (.s ns), some (vI (N : Nat)), some (.d (rowD w s m)), some (vS (writ w s m)), none, some (vI (k : Nat)), none, none]) (fun k => nD (pl w s k)) sc_law.nd
      (it_rangeN (n := m) b_range (x_ixT (x_var 2) x_int rfl) (by omega)) (blkOk_by (N := n_law) (sc := defScope s_law) (by decide +kernel)) (by rw [List.length_range]; omega)
      (fun k hk _ _ _ _ _ => tg_name 5 sc_law.nd)
      (fun k hk O' hO _ _ _ _ _ => x_modN (x_mulN (x_var 5) (x_ixT (d := nD s) (x_var 2) x_int rfl) (.inl (by omega))) (x_ixT (d := nD w) (x_var 2) x_int rfl) hw0)) (by unfold plcs; rw [List.map_map]; rfl)) hperm (hsort.imp fun z => Nat.le_of_lt z)) ?_)
    have hdot : tl (("." : Str) ++ "o") = [46, 111] := by decide +kernel
    have hat : ∀ k : Bool, atI (tl (("." : Str) ++ "o")) ((if k then 1 else 0 : Nat) : Int) = some (if k = true then 111 else 46) := fun k => by rw [hdot]; cases k <;> rfl
    have hone : ∀ k : Bool, vS ⟨#[if k = true then 111 else 46]⟩ = .d (.str (if k = true then "o" else ".")) := fun k => by
      cases k
      · exact congrArg (fun z => SV.d (.str z)) (ext_tl (by decide +kernel))
      · exact congrArg (fun z => SV.d (.str z)) (ext_tl (by decide +kernel))
    have hem : ("" : Str).length = 0 := by decide +kernel
    have hl2 : (("." : Str) ++ "o").length ≤ 100000 := by decide +kernel
    refine sb_cons (s_set 6 sc_law.nd (r := vS (drS w (onP w s m))) (x_join (x := "") (ys := (List.range w).map fun h => if onP w s m h = true then ("o" : Str) else ".") x_str (EX.cast (x_lc0 (xs := List.range w) [("here", 7)] [7] (fun i => [some (.s ns), some (vI (N : Nat)), some (.d (rowD w s m)), some (vS (writ w s m)), some (vL (((List.range w).filter (onP w s m)).map nD)), none, none, some (vI (i : Nat))]) (fun i => .str (if onP w s m i = true then "o" else ".")) sc_law.nd
      (it_rangeN (n := w) b_range (x_ixT (x_var 2) x_int rfl) (by omega)) (blkOk_by (N := n_law) (sc := defScope s_law) (by decide +kernel)) (by rw [List.length_range]; omega)
      (fun k hk _ _ _ _ _ => tg_name 7 sc_law.nd)
      (fun i hi O' hO _ _ _ _ _ => EX.cast (x_ixS' (x_catS x_str x_str (by decide +kernel)) (x_intB b_int (xc (CX1.cast (k' := onP w s m i) (c_inLN (x_var 7) (x_var 4)) (by
        have hi := List.mem_range.mp hi
        rw [Bool.eq_iff_iff, decide_eq_true_eq, List.mem_filter, List.mem_range]
        exact ⟨fun z => z.2, fun z => ⟨hi, z⟩⟩)))) (hat (onP w s m i)) hl2) (hone _))) (by rw [List.map_map]; rfl)) ?b1) ?_)
    case b1 =>
      rw [drS_sum, List.length_map, List.length_range, hem]
      omega
    refine sb_skip (t_w (w_or (k := false) (k' := false) (tc (CX1.cast (c_neW (y_call F_drawing (hr.mono (by decide)) (ad_cons (x_var 2) ad_nil) ⟨w, s, m, R, rfl, rfl⟩) (x_var 6)) (by simp))) (fun _ => w_or1 (tc (c_neF (d := .tuple (((List.range w).filter (onP w s m)).map nD)) (y_call F_points_of (hr.mono (by decide)) (ad_cons (x_var 6) ad_nil) ⟨w, onP w s m, by omega, rfl, rfl⟩) (x_tuple b_tuple (x_var 4)) (sh_nats _)))))) ?_
    have hc3 : ([0, 1, 2] : List Nat).getD (N % 3) 0 ≤ 2 := by
      have : N % 3 < 3 := Nat.mod_lt _ (by decide)
      rcases (show N % 3 = 0 ∨ N % 3 = 1 ∨ N % 3 = 2 by omega) with z | z | z <;> rw [z] <;> decide
    refine sb_for (τ := Str) (it_rangeN (n := ([0, 1, 2] : List Nat).getD (N % 3) 0) b_range (x_ixT (ds := ([0, 1, 2] : List Nat).map nD) (y_tup (ad_cons x_int (ad_cons x_int (ad_cons x_int ad_nil)))) (x_modN (m := 3) (x_var 1) x_int (by decide)) (atI_N (l := [0, 1, 2]) (Nat.mod_lt _ (by decide)))) (by omega)) (fun i t => [some (.s ns), some (vI (N : Nat)), some (.d (rowD w s m)), some (vS t), none, none, none, none]) (fun i _ => [(PT, OO.tab "law.<locals>.<lambda>")]) (fun i t => t.length ≤ 24 + i ∧ okC t) (writ w s m) ⟨by omega, okC_writ w s m⟩ (by repeat constructor) rfl ?c1 ?c2
    case c1 =>
      rintro i t hi ⟨h0, h1⟩
      have hi' : i < ([0, 1, 2] : List Nat).getD (N % 3) 0 := by simpa using hi
      rw [List.getElem_range]
      refine ⟨_, _, tg_name 5 sc_law.nd, sb_cons (s_setG 3 sc_law.nd (g_call (Φ := fun r O' => O' = [(PT, OO.tab "law.<locals>.<lambda>")] ∧ ∃ t' : Str, r = vS t' ∧ t'.length ≤ t.length + 1 ∧ okC t') F__law_changed (hr.mono (by decide)) (a_cons (x_var 3) (a_cons (x_fdivN (m := 4) (y_call F__law_drawn (hr.mono (by decide)) (ad_cons (x_var 1) (ad_cons (x_var 5) ad_nil)) ⟨N, i, rfl, rfl⟩) x_int (by decide) (by decide)) a_nil)) ⟨t, drawN N i / 4, by omega, h1, rfl, fun t' q1 q2 => ⟨rfl, t', rfl, q1, q2⟩⟩) ?_)⟩
      rintro r O' ⟨rfl, t', rfl, q1, q2⟩
      exact sb_nil ⟨t', ⟨by omega, q2⟩, by repeat constructor, rfl⟩
    case c2 =>
      rintro t ⟨h0, h1⟩
      rw [List.length_range] at h0
      have ht5 : t.length ≤ 500 := by omega
      by_cases hex : ∃ w s m, Row1 w s m ∧ t = writ w s m
      · obtain ⟨w', s', m', R', et⟩ := hex
        exact sb_cons (s_ret (xc (c_eqT (d := .tuple [.str "told", rowD w' s' m']) (g_lam (j := 10) (Φ := is1 (.d (rowD w' s' m')) [(PT, OO.tab "law.<locals>.<lambda>")]) (Ξ := fun _ _ => False) (Ψ := is1 (.d (.tuple [.str "told", rowD w' s' m'])) [(PT, OO.tab "law.<locals>.<lambda>")]) (F__law_told _) (hr.mono (by decide)) TB rfl List.mem_cons_self (LamX.lamS_by (sc := defScope s_law) (by decide +kernel)) (a_cons x_int a_nil) ⟨3, rfl, fun r O' ⟨e1, e2⟩ => ⟨_, e1, rfl, e2⟩, fun _ _ z => z.elim⟩ (fun A1 outer1 s1 H1 Ex1 f1 c1 hr2 => gx_call F_read (hr2.mono (by decide)) (a_cons (x_var 3) a_nil) ⟨t, ht5, rfl, fun w3 s3 m3 R3 et3 => (by obtain ⟨q1, q2, q3⟩ := writ_inj (et.symm.trans et3); subst q1; subst q2; subst q3; exact ⟨rfl, rfl⟩), fun hno => (hno w' s' m' R' et).elim⟩)) (g_call F__law_due (hr.mono (by decide)) (a_cons (x_var 3) a_nil) ⟨t, ht5, h1, rfl, fun w3 s3 m3 R3 et3 => (by obtain ⟨q1, q2, q3⟩ := writ_inj (et.symm.trans et3); subst q1; subst q2; subst q3; exact ⟨rfl, rfl⟩), fun hno => (hno w' s' m' R' et).elim⟩) (sh_told (sh_rowD _ _ _ _)))) h)
      · have hno : ∀ w s m, Row1 w s m → t ≠ writ w s m := fun w s m R et => hex ⟨w, s, m, R, et⟩
        exact sb_cons (s_ret (xc (c_eqT (d := .tuple [.str "refused", .bool true]) (g_lam (j := 10) (Φ := fun _ _ => False) (Ξ := fun cls O' => cls = .ref (He.ga K "NoText") ∧ O' = [(PT, OO.tab "law.<locals>.<lambda>")]) (Ψ := is1 (.d (.tuple [.str "refused", .bool true])) [(PT, OO.tab "law.<locals>.<lambda>")]) (F__law_told _) (hr.mono (by decide)) TB rfl List.mem_cons_self (LamX.lamS_by (sc := defScope s_law) (by decide +kernel)) (a_cons x_int a_nil) ⟨3, rfl, fun _ _ z => z.elim, fun cls O' ⟨e1, e2⟩ => ⟨_, 3, e1, k_NoText, rfl, e2⟩⟩ (fun A1 outer1 s1 H1 Ex1 f1 c1 hr2 => gx_call F_read (hr2.mono (by decide)) (a_cons (x_var 3) a_nil) ⟨t, ht5, rfl, fun w3 s3 m3 R3 et3 => (hno w3 s3 m3 R3 et3).elim, fun _ => ⟨rfl, rfl⟩⟩)) (g_call F__law_due (hr.mono (by decide)) (a_cons (x_var 3) a_nil) ⟨t, ht5, h1, rfl, fun w3 s3 m3 R3 et3 => (hno w3 s3 m3 R3 et3).elim, fun _ => ⟨rfl, rfl⟩⟩) (sh_ref (sh_bool _ _)))) h)
end
def d__law_cell_at : He.DefD := ⟨("_law_cell_at", none), "_law_cell_at", "_law_cell_at", defArgs s__law_cell_at, defBody s__law_cell_at, defScope s__law_cell_at, [], []⟩
def d__law_mixed : He.DefD := ⟨("_law_mixed", none), "_law_mixed", "_law_mixed", defArgs s__law_mixed, defBody s__law_mixed, defScope s__law_mixed, [], []⟩
def d__law_pair : He.DefD := ⟨("_law_pair", none), "_law_pair", "_law_pair", defArgs s__law_pair, defBody s__law_pair, defScope s__law_pair, [], []⟩
def d__law_turn : He.DefD := ⟨("_law_turn", none), "_law_turn", "_law_turn", defArgs s__law_turn, defBody s__law_turn, defScope s__law_turn, [], []⟩
def d__law_row : He.DefD := ⟨("_law_row", none), "_law_row", "_law_row", defArgs s__law_row, defBody s__law_row, defScope s__law_row, [], []⟩
def d__law_told : He.DefD := ⟨("_law_told", none), "_law_told", "_law_told", defArgs s__law_told, defBody s__law_told, defScope s__law_told, [], []⟩
def d_number_in : He.DefD := ⟨("number_in", none), "number_in", "number_in", defArgs s_number_in, defBody s_number_in, defScope s_number_in, [], []⟩
def d_is_whole : He.DefD := ⟨("is_whole", none), "is_whole", "is_whole", defArgs s_is_whole, defBody s_is_whole, defScope s_is_whole, [], []⟩
def d_common : He.DefD := ⟨("common", none), "common", "common", defArgs s_common, defBody s_common, defScope s_common, [], []⟩
def d_turn : He.DefD := ⟨("turn", none), "turn", "turn", defArgs s_turn, defBody s_turn, defScope s_turn, [], []⟩
def d_is_row : He.DefD := ⟨("is_row", none), "is_row", "is_row", defArgs s_is_row, defBody s_is_row, defScope s_is_row, [], []⟩
def d_written : He.DefD := ⟨("written", none), "written", "written", defArgs s_written, defBody s_written, defScope s_written, [], []⟩
def d_read : He.DefD := ⟨("read", none), "read", "read", defArgs s_read, defBody s_read, defScope s_read, [], []⟩
def d_place : He.DefD := ⟨("place", none), "place", "place", defArgs s_place, defBody s_place, defScope s_place, [], []⟩
def d_drawing : He.DefD := ⟨("drawing", none), "drawing", "drawing", defArgs s_drawing, defBody s_drawing, defScope s_drawing, [], []⟩
def d_points_of : He.DefD := ⟨("points_of", none), "points_of", "points_of", defArgs s_points_of, defBody s_points_of, defScope s_points_of, [], []⟩
def d__law_number : He.DefD := ⟨("_law_number", none), "_law_number", "_law_number", defArgs s__law_number, defBody s__law_number, defScope s__law_number, [], []⟩
def d__law_due : He.DefD := ⟨("_law_due", none), "_law_due", "_law_due", defArgs s__law_due, defBody s__law_due, defScope s__law_due, [], []⟩
def d__law_changed : He.DefD := ⟨("_law_changed", none), "_law_changed", "_law_changed", defArgs s__law_changed, defBody s__law_changed, defScope s__law_changed, [], []⟩
def d__law_drawn : He.DefD := ⟨("_law_drawn", none), "_law_drawn", "_law_drawn", defArgs s__law_drawn, defBody s__law_drawn, defScope s__law_drawn, [], []⟩
def d_law : He.DefD := ⟨("law", none), "law", "law", defArgs s_law, defBody s_law, defScope s_law, [], []⟩
def fn : List He.DefD := [d__law_cell_at, d__law_mixed, d__law_pair, d__law_turn, d__law_row, d__law_told, d_number_in, d_is_whole, d_common, d_turn, d_is_row, d_written, d_read, d_place, d_drawing, d_points_of, d__law_number, d__law_due, d__law_changed, d__law_drawn, d_law]
def fa : List He.Fa := [.glo "_law_cell_at", .glo "_law_mixed", .glo "_law_pair", .glo "_law_turn", .glo "_law_row", .glo "_law_told", .glo "number_in", .glo "is_whole", .glo "common", .glo "turn", .glo "is_row", .glo "written", .glo "read", .glo "place", .glo "drawing", .glo "points_of", .glo "_law_number", .glo "_law_due", .glo "_law_changed", .glo "_law_drawn", .glo "law", .free "len", .free "range", .free "isinstance", .free "ValueError", .free "all", .free "int", .free "bool", .free "tuple", .free "str", .free "enumerate", .free "sorted", .int "MOST_FIGURES" 3, .str "FIGURES" "0123456789", .int "MOST_PLACES" 120, .str "NONE" ".", .str "POINT" "o", .exc "NoText", .glo "NoText", .glo "RingError", .glo "NoStep", .glo "NoRoom", .glo "NoPoint"]
abbrev R : PySem.W.OpenRow := PySem.W.OpenLaw.row PySem.Challenge.rw_ringgaps_k02_whole_texts
def ex (K : PySem.W.Frag) : Bool := true && kindB K "NoText" 3
abbrev tf : List He.Defn := [("law", none)]
abbrev hk : PySem.W.Hook := He.hookX 4 fa fn [] tf ex
def ob (s : PySem.W.SharedT) : He.AlX := He.obsX 4 fa fn [] tf ex (HandSHeadRun.getT s)
theorem ob_eq (s : PySem.W.SharedT) : ob s = hk.obs s.abs := He.obsX_eq (HandSHeadRun.getT_eq s)
theorem run (w : World) : HandSHeadRun.RunEq R (PySem.W.view R.prog [34]) hk ob 4000 ["is_whole", "common", "turn", "is_row", "place", "written", "number_in", "read", "drawing", "points_of", "_law_cell_at", "_law_mixed", "_law_drawn", "_law_turn", "_law_pair", "_law_row", "_law_told", "_law_number", "_law_due", "_law_changed", "RingError", "NoStep", "NoRoom", "NoPoint", "NoText", "MOST_PLACES", "POINT", "NONE", "FIGURES", "MOST_FIGURES"] w := by
  intro os
  kernel_rfl
theorem facts {P : Program} {w : World} {K : PySem.W.Frag} {h : Heap} {mg : Str → Option Value} {f : Addr} (X : K.In h) (G : h.Ns mainGlobals mg) (hfa : mg ("law" : Str) = some (.ref f)) (c : He.SaysD fa fn K) (cx : ex K = true) :
    ∃ fd : FuncData, (∀ (s : Shared) (v : Value), BindsTo s fd ⟨[v], []⟩ [("script", v)]) ∧ ∀ base : Heap, K.In base → base.Ns mainGlobals mg → LamX.TabB base mg (He.cT K ("law", none)).1 (He.cT K ("law", none)).2 → FnOk P w K mg base CX0 14 f fd ["script"] (spOf K (T_lawT (He.cT K ("law", none)).2 "law.<locals>.<lambda>")) := by
  obtain ⟨fd__law_cell_at, D__law_cell_at⟩ := c.def_ 0 (d := d__law_cell_at) rfl
  have G__law_cell_at := He.glo_ok X G (c.fact 0 (f := .glo "_law_cell_at") rfl)
  obtain ⟨fd__law_mixed, D__law_mixed⟩ := c.def_ 1 (d := d__law_mixed) rfl
  have G__law_mixed := He.glo_ok X G (c.fact 1 (f := .glo "_law_mixed") rfl)
  obtain ⟨fd__law_pair, D__law_pair⟩ := c.def_ 2 (d := d__law_pair) rfl
  have G__law_pair := He.glo_ok X G (c.fact 2 (f := .glo "_law_pair") rfl)
  obtain ⟨fd__law_turn, D__law_turn⟩ := c.def_ 3 (d := d__law_turn) rfl
  have G__law_turn := He.glo_ok X G (c.fact 3 (f := .glo "_law_turn") rfl)
  obtain ⟨fd__law_row, D__law_row⟩ := c.def_ 4 (d := d__law_row) rfl
  have G__law_row := He.glo_ok X G (c.fact 4 (f := .glo "_law_row") rfl)
  obtain ⟨fd__law_told, D__law_told⟩ := c.def_ 5 (d := d__law_told) rfl
  have G__law_told := He.glo_ok X G (c.fact 5 (f := .glo "_law_told") rfl)
  obtain ⟨fd_number_in, D_number_in⟩ := c.def_ 6 (d := d_number_in) rfl
  have G_number_in := He.glo_ok X G (c.fact 6 (f := .glo "number_in") rfl)
  obtain ⟨fd_is_whole, D_is_whole⟩ := c.def_ 7 (d := d_is_whole) rfl
  have G_is_whole := He.glo_ok X G (c.fact 7 (f := .glo "is_whole") rfl)
  obtain ⟨fd_common, D_common⟩ := c.def_ 8 (d := d_common) rfl
  have G_common := He.glo_ok X G (c.fact 8 (f := .glo "common") rfl)
  obtain ⟨fd_turn, D_turn⟩ := c.def_ 9 (d := d_turn) rfl
  have G_turn := He.glo_ok X G (c.fact 9 (f := .glo "turn") rfl)
  obtain ⟨fd_is_row, D_is_row⟩ := c.def_ 10 (d := d_is_row) rfl
  have G_is_row := He.glo_ok X G (c.fact 10 (f := .glo "is_row") rfl)
  obtain ⟨fd_written, D_written⟩ := c.def_ 11 (d := d_written) rfl
  have G_written := He.glo_ok X G (c.fact 11 (f := .glo "written") rfl)
  obtain ⟨fd_read, D_read⟩ := c.def_ 12 (d := d_read) rfl
  have G_read := He.glo_ok X G (c.fact 12 (f := .glo "read") rfl)
  obtain ⟨fd_place, D_place⟩ := c.def_ 13 (d := d_place) rfl
  have G_place := He.glo_ok X G (c.fact 13 (f := .glo "place") rfl)
  obtain ⟨fd_drawing, D_drawing⟩ := c.def_ 14 (d := d_drawing) rfl
  have G_drawing := He.glo_ok X G (c.fact 14 (f := .glo "drawing") rfl)
  obtain ⟨fd_points_of, D_points_of⟩ := c.def_ 15 (d := d_points_of) rfl
  have G_points_of := He.glo_ok X G (c.fact 15 (f := .glo "points_of") rfl)
  obtain ⟨fd__law_number, D__law_number⟩ := c.def_ 16 (d := d__law_number) rfl
  have G__law_number := He.glo_ok X G (c.fact 16 (f := .glo "_law_number") rfl)
  obtain ⟨fd__law_due, D__law_due⟩ := c.def_ 17 (d := d__law_due) rfl
  have G__law_due := He.glo_ok X G (c.fact 17 (f := .glo "_law_due") rfl)
  obtain ⟨fd__law_changed, D__law_changed⟩ := c.def_ 18 (d := d__law_changed) rfl
  have G__law_changed := He.glo_ok X G (c.fact 18 (f := .glo "_law_changed") rfl)
  obtain ⟨fd__law_drawn, D__law_drawn⟩ := c.def_ 19 (d := d__law_drawn) rfl
  have G__law_drawn := He.glo_ok X G (c.fact 19 (f := .glo "_law_drawn") rfl)
  obtain ⟨fd_law, D_law⟩ := c.def_ 20 (d := d_law) rfl
  have G_law := He.glo_ok X G (c.fact 20 (f := .glo "law") rfl)
  have b_len := He.free_ok X G (c.fact 21 (f := .free "len") rfl)
  have b_range := He.free_ok X G (c.fact 22 (f := .free "range") rfl)
  have b_isinstance := He.free_ok X G (c.fact 23 (f := .free "isinstance") rfl)
  have b_ValueError := He.free_ok X G (c.fact 24 (f := .free "ValueError") rfl)
  have b_all := He.free_ok X G (c.fact 25 (f := .free "all") rfl)
  have b_int := He.free_ok X G (c.fact 26 (f := .free "int") rfl)
  have b_bool := He.free_ok X G (c.fact 27 (f := .free "bool") rfl)
  have b_tuple := He.free_ok X G (c.fact 28 (f := .free "tuple") rfl)
  have b_str := He.free_ok X G (c.fact 29 (f := .free "str") rfl)
  have b_enumerate := He.free_ok X G (c.fact 30 (f := .free "enumerate") rfl)
  have b_sorted := He.free_ok X G (c.fact 31 (f := .free "sorted") rfl)
  have g_RingError := He.glo_ok X G (c.fact 39 (f := .glo "RingError") rfl)
  have g_NoStep := He.glo_ok X G (c.fact 40 (f := .glo "NoStep") rfl)
  have g_NoRoom := He.glo_ok X G (c.fact 41 (f := .glo "NoRoom") rfl)
  have g_NoPoint := He.glo_ok X G (c.fact 42 (f := .glo "NoPoint") rfl)
  have g_NoText := He.glo_ok X G (c.fact 38 (f := .glo "NoText") rfl)
  have x_NoText : ExK K mg "NoText" (He.ga K "NoText") := ExK.of (He.exc_ok (c.fact 37 (f := .exc "NoText") rfl)) (He.glo_ok X G (c.fact 38 (f := .glo "NoText") rfl))
  unfold ex at cx
  simp only [Bool.and_eq_true] at cx
  obtain ⟨_, q_NoText⟩ := cx
  have k_NoText := kindB_ok q_NoText
  have i_MOST_FIGURES := He.int_ok X G (c.fact 32 (f := .int "MOST_FIGURES" 3) rfl)
  have i_FIGURES := He.str_ok X G (c.fact 33 (f := .str "FIGURES" "0123456789") rfl)
  have i_MOST_PLACES := He.int_ok X G (c.fact 34 (f := .int "MOST_PLACES" 120) rfl)
  have i_NONE := He.str_ok X G (c.fact 35 (f := .str "NONE" ".") rfl)
  have i_POINT := He.str_ok X G (c.fact 36 (f := .str "POINT" "o") rfl)
  have e := hfa.symm.trans G_law
  cases e
  have b := FunD.bindsA (ps := ["script"]) D_law fun _ _ _ _ _ _ us hl => match us, hl with | [_], _ => rfl
  refine ⟨fd_law, fun s v => b s [v] rfl, fun base _ _ TB => ?_⟩
  have F__law_cell_at := f__law_cell_at (P := P) (w := w) (base := base) ⟨_, _, D__law_cell_at, G__law_cell_at⟩ b_len
  have F__law_mixed := f__law_mixed (P := P) (w := w) (base := base) ⟨_, _, D__law_mixed, G__law_mixed⟩ F__law_cell_at
  have F__law_pair := f__law_pair (P := P) (w := w) (base := base) ⟨_, _, D__law_pair, G__law_pair⟩
  have F__law_turn := f__law_turn (P := P) (w := w) (base := base) ⟨_, _, D__law_turn, G__law_turn⟩ b_range
  have F__law_row := f__law_row (P := P) (w := w) (base := base) ⟨_, _, D__law_row, G__law_row⟩ F__law_pair F__law_turn
  have F__law_told := f__law_told (P := P) (w := w) (base := base) ⟨_, _, D__law_told, G__law_told⟩ g_RingError g_NoStep g_NoRoom g_NoPoint g_NoText b_isinstance b_ValueError
  have F_number_in := f_number_in (P := P) (w := w) (base := base) ⟨_, _, D_number_in, G_number_in⟩ x_NoText b_len b_all b_int i_MOST_FIGURES i_FIGURES
  have F_is_whole := f_is_whole (P := P) (w := w) (base := base) ⟨_, _, D_is_whole, G_is_whole⟩ b_isinstance b_int b_bool
  have F_common := f_common (P := P) (w := w) (base := base) ⟨_, _, D_common, G_common⟩
  have F_turn := f_turn (P := P) (w := w) (base := base) ⟨_, _, D_turn, G_turn⟩ F_common
  have F_is_row := f_is_row (P := P) (w := w) (base := base) ⟨_, _, D_is_row, G_is_row⟩ F_is_whole F_turn b_isinstance b_tuple b_len i_MOST_PLACES
  have F_written := f_written (P := P) (w := w) (base := base) ⟨_, _, D_written, G_written⟩ b_str
  have F_read := f_read (P := P) (w := w) (base := base) ⟨_, _, D_read, G_read⟩ x_NoText F_number_in F_is_row F_written b_isinstance b_str b_len
  have F_place := f_place (P := P) (w := w) (base := base) ⟨_, _, D_place, G_place⟩
  have F_drawing := f_drawing (P := P) (w := w) (base := base) ⟨_, _, D_drawing, G_drawing⟩ F_place b_range b_int i_NONE i_POINT
  have F_points_of := f_points_of (P := P) (w := w) (base := base) ⟨_, _, D_points_of, G_points_of⟩ b_tuple b_enumerate i_POINT
  have F__law_number := f__law_number (P := P) (w := w) (base := base) ⟨_, _, D__law_number, G__law_number⟩ b_len b_int
  have F__law_due := f__law_due (P := P) (w := w) (base := base) ⟨_, _, D__law_due, G__law_due⟩ F__law_number F__law_turn b_len
  have F__law_changed := f__law_changed (P := P) (w := w) (base := base) ⟨_, _, D__law_changed, G__law_changed⟩ b_len
  have F__law_drawn := f__law_drawn (P := P) (w := w) (base := base) ⟨_, _, D__law_drawn, G__law_drawn⟩
  exact f_law (P := P) (w := w) (base := base) (PT := (He.cT K ("law", none)).2) D_law TB k_NoText F__law_mixed F__law_row F__law_told F_read F_written F_drawing F_points_of F__law_due F__law_changed F__law_drawn b_range b_str b_sorted b_tuple b_int (code_at (p := ("law", none)) D_law)
end Py.R
open PySem PySem.W PySem.Calls PyProof.Rows
set_option maxHeartbeats 0 in
theorem PySem.Challenge.cw_ringgaps_k02_whole_texts_holds : PySem.Challenge.rw_ringgaps_k02_whole_texts.Holds := by
  w_on; o_law
  refine HandSHeadRun.head_any (r := OpenLaw.row PySem.Challenge.rw_ringgaps_k02_whole_texts) (q := view (OpenLaw.row PySem.Challenge.rw_ringgaps_k02_whole_texts).prog [34]) (H := Py.R.hk) (ob := Py.R.ob) (M := 4000) (loose := ["is_whole", "common", "turn", "is_row", "place", "written", "number_in", "read", "drawing", "points_of", "_law_cell_at", "_law_mixed", "_law_drawn", "_law_turn", "_law_pair", "_law_row", "_law_told", "_law_number", "_law_due", "_law_changed", "RingError", "NoStep", "NoRoom", "NoPoint", "NoText", "MOST_PLACES", "POINT", "NONE", "FIGURES", "MOST_FIGURES"]) (d := HandSHeadRun.topDef (OpenLaw.row PySem.Challenge.rw_ringgaps_k02_whole_texts).prog 34) (kwd := []) Py.R.ob_eq
    (by kernel_rfl) (fun s => by kernel_rfl) Py.R.run (by kernel_rfl) (by kernel_rfl) (by kernel_rfl) (by rfl) (by first | assumption | decide +kernel) (by decide +kernel) ⟨rfl, rfl, rfl, rfl, rfl, by decide +kernel⟩ ?hw ?hc
  case hw => w_witness2
  case hc =>
    refine LamX.walk_ofTsE (l := PySem.Challenge.rw_ringgaps_k02_whole_texts) (n := 63) (k := 14) (x := "script") (CX := fun _ => L2.CX0) rfl (by decide) (by kernel_rfl) ⟨rfl, by decide, by decide⟩ ?F (fun _ _ _ _ _ z => z)
    intro w mg fa h Y G hmg0
    obtain ⟨K, KX, c⟩ := Y
    have hmg : mg ("law" : PySem.Str) = some (.ref fa) := by
      have e : (HandSHeadRun.topDef (OpenLaw.row PySem.Challenge.rw_ringgaps_k02_whole_texts).prog 34).name = ("law" : PySem.Str) := by kernel_rfl
      rw [← e]
      exact hmg0
    obtain ⟨fd, hb, hF⟩ := Py.R.facts (P := (PySem.Challenge.rw_ringgaps_k02_whole_texts).prog) (w := w) KX G hmg c.t.d c.more
    exact ⟨K, KX, Py.lawAt_of (p := ("law", none)) KX c List.mem_cons_self hb hF⟩
