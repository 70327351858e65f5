import PyProof.Rows.All
import Wide.All
import OpenK.AllK
import Wide.FinOn
import HandS.Base
import HandS.Call
import HandS.List
import HandS.Comp
import HandS.Ends
import HandS.Dict
import HandS.Iter
import HandS.Text
import HandS.Words
import HandS.WordsList
import HandS.WordsDict
import HandS.Lambda
import HandS.Defaults
import HandS.Head0
import HandS.Head1
import HandS.Head2
import HandS.HeadEnd
import HandS.HeadHook1
import HandS.HeadHook2
import HandS.SortRule
import HandS.SortInts
import HandS.TupAny
import HandS.SetFor
import HandS.Strs
import HandS.Walk
import PyProof.SeqIndex
import KE.KTupSum
import HandS.Zip
import HandS.More
import KE.DataMinMax
import HandS.Wide
import HandS.SortOrd
import PySem.Challenge.RW_ringgaps_k31_whole_a_greatest_is_cut
set_option Elab.async false
set_option linter.all false
set_option maxRecDepth 100000
namespace Py
open PySem PySem.Spec PyProof.Rows L2

/-! ### data in a heap -/
def Sub (H H' : Hp) : Prop := ∀ a o, H a = some o → H' a = some o
theorem Sub.refl (H : Hp) : Sub H H := fun _ _ h => h
theorem Sub.trans {H H1 H2 : Hp} (a : Sub H H1) (b : Sub H1 H2) : Sub H H2 := fun x o h => b x o (a x o h)
theorem rd_sub {H H' : Hp} {a : Addr} {u : HO} (e : Sub H H') (h : Rd H a u) : Rd H' a u := h.elim (fun h => .inl (e _ _ h)) fun ⟨o, h⟩ => .inr ⟨o, e _ _ h⟩
theorem sub_L {K : PySem.W.Frag} {H H' : Hp} {a : Addr} {xs : List V} (e : Sub H H') (h : SqL K H a xs) : SqL K H' a xs := by
  rcases h with (h | ⟨o, h⟩) | h
  · exact .inl (.inl (e _ _ h))
  · exact .inl (.inr ⟨o, e _ _ h⟩)
  · exact .inr h
theorem sub_T {K : PySem.W.Frag} {H H' : Hp} {a : Addr} {xs : List V} (e : Sub H H') (h : SqT K H a xs) : SqT K H' a xs := by
  rcases h with (h | ⟨o, h⟩) | h
  · exact .inl (.inl (e _ _ h))
  · exact .inl (.inr ⟨o, e _ _ h⟩)
  · exact .inr h
mutual
inductive Dq (H : Hp) : V → PyData → Prop
  | non : Dq H .non .none
  | bl (b : Bool) : Dq H (.bl b) (.bool b)
  | int (i : Int) : Dq H (.int i) (.int i)
  | str (x : Str) : Dq H (.str x) (.str x)
  | lst {a : Addr} {xs : List V} {ds : List PyData} : H a = some (.lst xs) → DqAll H xs ds → Dq H (.ref a) (.list ds)
  | tup {a : Addr} {xs : List V} {ds : List PyData} : Rd H a (.tup xs) → DqAll H xs ds → Dq H (.ref a) (.tuple ds)
inductive DqAll (H : Hp) : List V → List PyData → Prop
  | nil : DqAll H [] []
  | cons {v : V} {vs : List V} {d : PyData} {ds : List PyData} : Dq H v d → DqAll H vs ds → DqAll H (v :: vs) (d :: ds)
end
section
variable {K : PySem.W.Frag} {H : Hp}
mutual
theorem dq_dp : ∀ (d : PyData) (v : V), Dq H v d → Dp K H v d
  | .none, _, h => by cases h; exact .non
  | .bool b, _, h => by cases h; exact .bl b
  | .int i, _, h => by cases h; exact .int i
  | .str x, _, h => by cases h; exact .str x
  | .list ds, _, h => by
    cases h with
    | lst hs ha => exact .lst (SqL.of hs) (dqAll_dp ds _ ha)
  | .tuple ds, _, h => by
    cases h with
    | tup hs ha => exact .tup (.inl hs) (dqAll_dp ds _ ha)
  | .dict _, _, h => by cases h
theorem dqAll_dp : ∀ (ds : List PyData) (vs : List V), DqAll H vs ds → DpAll K H vs ds
  | [], _, h => by cases h; exact .nil
  | d :: ds, _, h => by
    cases h with
    | cons h1 h2 => exact .cons (dq_dp d _ h1) (dqAll_dp ds _ h2)
end
end
section
variable {K : PySem.W.Frag} {H H' : Hp}
mutual
theorem dp_sub (e : Sub H H') : ∀ (d : PyData) (v : V), Dq H v d → Dq H' v d
  | .none, _, h => by cases h; exact .non
  | .bool b, _, h => by cases h; exact .bl b
  | .int i, _, h => by cases h; exact .int i
  | .str x, _, h => by cases h; exact .str x
  | .list ds, _, h => by
    cases h with
    | lst hs ha => exact .lst (e _ _ hs) (dpAll_sub e ds _ ha)
  | .tuple ds, _, h => by
    cases h with
    | tup hs ha => exact .tup (rd_sub e hs) (dpAll_sub e ds _ ha)
  | .dict _, _, h => by cases h
theorem dpAll_sub (e : Sub H H') : ∀ (ds : List PyData) (vs : List V), DqAll H vs ds → DqAll H' vs ds
  | [], _, h => by cases h; exact .nil
  | d :: ds, _, h => by
    cases h with
    | cons h1 h2 => exact .cons (dp_sub e d _ h1) (dpAll_sub e ds _ h2)
end
theorem dpa_len : ∀ {vs : List V} {ds : List PyData}, DqAll H vs ds → vs.length = ds.length
  | _, _, .nil => rfl
  | _, _, .cons _ t => by rw [List.length_cons, List.length_cons, dpa_len t]
theorem dpa_at_ : ∀ {vs : List V} {ds : List PyData} {i : Nat} {d : PyData}, DqAll H vs ds → ds[i]? = some d → ∃ v, vs[i]? = some v ∧ Dq H v d
  | _, _, i, d, .nil, e => by simp at e
  | _, _, 0, d, .cons h t, e => by
    simp at e
    subst e
    exact ⟨_, rfl, h⟩
  | _, _, i + 1, d, .cons h t, e => by
    obtain ⟨v, a, b⟩ := dpa_at_ (i := i) t (by simpa using e)
    exact ⟨v, by simpa using a, b⟩
theorem dpa_atV : ∀ {vs : List V} {ds : List PyData} {i : Nat} {v : V}, DqAll H vs ds → vs[i]? = some v → ∃ d, ds[i]? = some d ∧ Dq H v d
  | _, _, i, d, .nil, e => by simp at e
  | _, _, 0, d, .cons h t, e => by
    simp at e
    subst e
    exact ⟨_, rfl, h⟩
  | _, _, i + 1, d, .cons h t, e => by
    obtain ⟨v, a, b⟩ := dpa_atV (i := i) t (by simpa using e)
    exact ⟨v, by simpa using a, b⟩
theorem dpa_app : ∀ {vs us : List V} {ds es : List PyData}, DqAll H vs ds → DqAll H us es → DqAll H (vs ++ us) (ds ++ es)
  | _, _, _, _, .nil, s => s
  | _, _, _, _, .cons h t, s => .cons h (dpa_app t s)
theorem dpa_take : ∀ {vs : List V} {ds : List PyData} (n : Nat), DqAll H vs ds → DqAll H (vs.take n) (ds.take n)
  | _, _, 0, _ => .nil
  | _, _, _ + 1, .nil => .nil
  | _, _, n + 1, .cons h t => .cons h (dpa_take n t)
theorem dpa_drop : ∀ {vs : List V} {ds : List PyData} (n : Nat), DqAll H vs ds → DqAll H (vs.drop n) (ds.drop n)
  | _, _, 0, r => r
  | _, _, _ + 1, .nil => .nil
  | _, _, n + 1, .cons _ t => dpa_drop n t
theorem dpa_rev : ∀ {vs : List V} {ds : List PyData}, DqAll H vs ds → DqAll H vs.reverse ds.reverse
  | _, _, .nil => .nil
  | _, _, .cons h t => by
    rw [List.reverse_cons, List.reverse_cons]
    exact dpa_app (dpa_rev t) (.cons h .nil)
theorem dpa_ints : ∀ {ns : List Int}, DqAll H (ns.map V.int) (ns.map PyData.int)
  | [] => .nil
  | _ :: _ => .cons (.int _) dpa_ints
theorem dpa_ofInts : ∀ {ns : List Int} {vs : List V}, DqAll H vs (ns.map PyData.int) → vs = ns.map V.int
  | [], vs, h => by cases h; rfl
  | n :: ns, vs, h => by
    cases h with
    | cons h1 h2 =>
      cases h1
      rw [dpa_ofInts h2]
      rfl
theorem dpa_append1 {vs : List V} {ds : List PyData} {v : V} {d : PyData} (h : DqAll H vs ds) (q : Dq H v d) : DqAll H (vs ++ [v]) (ds ++ [d]) := dpa_app h (.cons q .nil)
end

/-! ### what a name holds; what is one's own -/
inductive SV where
  | d (x : PyData)
  | v (x : V)
  | s (ns : List Int)
  | t (ds : List PyData)
  | k (kvs : List (Int × PyData))
  | m (x : V) (P : Hp → Prop)
inductive OO where
  | lst (ds : List PyData)
  | dic (kvs : List (Int × PyData))
  | ins (C dx : Addr) (fs : List (Str × V))
  | tab (q : Str)
abbrev Own := List (Addr × OO)
abbrev En := List (Option SV)
def vis (O : Own) (H : Hp) : Hp := fun a => if a ∈ O.map (·.1) then none else H a
theorem vis_some {O : Own} {H : Hp} {a : Addr} {o : HO} (h : vis O H a = some o) : a ∉ O.map (·.1) ∧ H a = some o := by
  unfold vis at h
  split at h
  · cases h
  · exact ⟨by assumption, h⟩
theorem vis_of {O : Own} {H : Hp} {a : Addr} {o : HO} (h1 : a ∉ O.map (·.1)) (h2 : H a = some o) : vis O H a = some o := by
  unfold vis
  rw [if_neg h1]
  exact h2
theorem vis_sub (O : Own) (H : Hp) : Sub (vis O H) H := fun _ _ h => (vis_some h).2
def SVr (K : PySem.W.Frag) (W : Hp) (v : V) : SV → Prop
  | .d x => Dq W v x
  | .v y => v = y
  | .s ns => ∃ a, v = .ref a ∧ SqL K W a (ns.map V.int)
  | .t ds => ∃ (a : Addr) (o : Obj) (vs : List V), v = .ref a ∧ W a = some (.frz o (.tup vs)) ∧ o.dict = none ∧ DqAll W vs ds
  | .k kvs => ∃ (a : Addr) (o : Obj) (vs : List (Key × V)), v = .ref a ∧ W a = some (.frz o (.dK vs)) ∧ Paired (fun (p : Key × V) (q : Int × PyData) => p.1 = Sum.inl q.1 ∧ Dq W p.2 q.2) vs kvs
  | .m x P => v = x ∧ P W ∧ ∀ W1 W2, Sub W1 W2 → P W1 → P W2
theorem SVr.sub {K : PySem.W.Frag} {W W' : Hp} {v : V} (e : Sub W W') : ∀ {r : SV}, SVr K W v r → SVr K W' v r
  | .d _, h => dp_sub e _ _ h
  | .v _, h => h
  | .s _, ⟨a, e1, e2⟩ => ⟨a, e1, sub_L e e2⟩
  | .t _, ⟨a, o, vs, e1, e2, e3, e4⟩ => ⟨a, o, vs, e1, e _ _ e2, e3, dpAll_sub e _ _ e4⟩
  | .k _, ⟨a, o, vs, e1, e2, e3⟩ => ⟨a, o, vs, e1, e _ _ e2, Paired.mapP e3 fun _ _ z => ⟨z.1, dp_sub e _ _ z.2⟩⟩
  | .m _ _, ⟨e1, e2, e3⟩ => ⟨e1, e3 _ _ e e2, e3⟩
def ObjIs (K : PySem.W.Frag) (W H : Hp) (a : Addr) : OO → Prop
  | .lst ds => ∃ vs, H a = some (.lst vs) ∧ DqAll W vs ds
  | .dic kvs => ∃ vs : List (Key × V), H a = some (.dK vs) ∧ Paired (fun (p : Key × V) (q : Int × PyData) => p.1 = Sum.inl q.1 ∧ Dq W p.2 q.2) vs kvs
  | .ins C dx fs => H a = some (.ins C dx fs) ∧ H dx = some (.own a)
  | .tab q => ∃ ps : Array Value, H a = some (.tbl ps) ∧ TriplesOk ps.toList ∧ ∀ (pos : Pos) (cv : Value), codeAmong pos ps.toList = some cv → ∃ c, cv = .ref c ∧ W c = some (LamX.CodeO c q)
structure OwnOk (K : PySem.W.Frag) (O : Own) (H : Hp) : Prop where
  nd : (O.map (·.1)).Nodup
  is : ∀ p ∈ O, ObjIs K (vis O H) H p.1 p.2
theorem ObjIs.sub {K : PySem.W.Frag} {W W' H H' : Hp} {a : Addr} (e : Sub W W') (h : H' a = H a) : ∀ {o : OO}, (∀ dx, H dx = some (.own a) → H' dx = some (.own a)) → ObjIs K W H a o → ObjIs K W' H' a o
  | .lst _, _, ⟨vs, q, r⟩ => ⟨vs, h.trans q, dpAll_sub e _ _ r⟩
  | .dic _, _, ⟨vs, q, r⟩ => ⟨vs, h.trans q, Paired.mapP r fun _ _ z => ⟨z.1, dp_sub e _ _ z.2⟩⟩
  | .ins _ _ _, k, ⟨q, r⟩ => ⟨h.trans q, k _ r⟩
  | .tab _, _, ⟨ps, q1, q2, q3⟩ => ⟨ps, h.trans q1, q2, fun pos cv hc => let ⟨c, e1, e2⟩ := q3 pos cv hc; ⟨c, e1, e _ _ e2⟩⟩
theorem ObjIs.some {K : PySem.W.Frag} {W H : Hp} {a : Addr} : ∀ {o : OO}, ObjIs K W H a o → ∃ u, H a = some u
  | .lst _, ⟨_, q, _⟩ => ⟨_, q⟩
  | .dic _, ⟨_, q, _⟩ => ⟨_, q⟩
  | .ins _ _ _, ⟨q, _⟩ => ⟨_, q⟩
  | .tab _, ⟨_, q, _⟩ => ⟨_, q⟩
/-- from (O, H) to (O', H'): all else is kept -/
structure Stp (K : PySem.W.Frag) (O : Own) (H : Hp) (O' : Own) (H' : Hp) : Prop where
  keep : ∀ a o, a ∉ O.map (·.1) → H a = some o → H' a = some o
  new : ∀ a, a ∈ O'.map (·.1) → a ∈ O.map (·.1) ∨ H a = none
  dom : ∀ a, H' a = none → H a = none
  ok : OwnOk K O' H'
section
variable {K : PySem.W.Frag} {O O1 O2 : Own} {H H1 H2 : Hp}
theorem Stp.refl (h : OwnOk K O H) : Stp K O H O H := ⟨fun _ _ _ h => h, fun _ h => .inl h, fun _ h => h, h⟩
theorem Stp.trans (a : Stp K O H O1 H1) (b : Stp K O1 H1 O2 H2) : Stp K O H O2 H2 where
  keep := fun x o n h => b.keep x o (fun z => (a.new x z).elim n fun e => by rw [h] at e; cases e) (a.keep x o n h)
  new := fun x h => (b.new x h).elim (a.new x) fun e => .inr (a.dom x e)
  dom := fun x h => a.dom x (b.dom x h)
  ok := b.ok
theorem Stp.vis (a : Stp K O H O1 H1) : Sub (vis O H) (vis O1 H1) := fun x o h => by
  obtain ⟨n, e⟩ := vis_some h
  exact vis_of (fun z => (a.new x z).elim n fun q => by rw [e] at q; cases q) (a.keep x o n e)
theorem Stp.sv (a : Stp K O H O1 H1) {v : V} {r : SV} (h : SVr K (Py.vis O H) v r) : SVr K (Py.vis O1 H1) v r := h.sub a.vis
/-- a new object that nobody owns -/
theorem Stp.laid {p : Addr} {o : HO} (h : OwnOk K O H) (hp : H p = none) : Stp K O H O (upd H p o) := by
  have np : p ∉ O.map (·.1) := fun z => by
    obtain ⟨q, hq, rfl⟩ := List.mem_map.mp z
    obtain ⟨u, e⟩ := (h.is q hq).some
    rw [hp] at e
    cases e
  have k : ∀ a o', H a = some o' → upd H p o a = some o' := fun a o' e => by rw [upd_ne (ne_of_none e hp)]; exact e
  refine ⟨fun a o' _ e => k a o' e, fun _ z => .inl z, fun a e => ?_, h.nd, fun q hq => ?_⟩
  · by_cases ha : a = p
    · subst ha
      exact hp
    · rw [upd_ne ha] at e
      exact e
  · refine (h.is q hq).sub (fun a o' z => ?_) ?_ (fun dx z => k _ _ z)
    · obtain ⟨z1, z2⟩ := vis_some z
      exact vis_of z1 (k _ _ z2)
    · obtain ⟨u, e⟩ := (h.is q hq).some
      rw [upd_ne (ne_of_none e hp)]
theorem OwnOk.fresh {p : Addr} (h : OwnOk K O H) (hp : H p = none) : p ∉ O.map (·.1) := fun z => by
  obtain ⟨q, hq, rfl⟩ := List.mem_map.mp z
  obtain ⟨u, e⟩ := (h.is q hq).some
  rw [hp] at e
  cases e
theorem vis_laid {p : Addr} {o : HO} (h : OwnOk K O H) (hp : H p = none) : vis O (upd H p o) p = some o := vis_of (h.fresh hp) upd_same
end

/-! ### states -/
structure Rep (K : PySem.W.Frag) (E : En) (O : Own) (σ : L2.St) (H : Hp) : Prop where
  len : σ.length = E.length
  own : OwnOk K O H
  sl : ∀ (i : Nat) (r : SV), E[i]? = some (some r) → ∃ v, σ[i]? = some (some v) ∧ SVr K (vis O H) v r
section
variable {K : PySem.W.Frag} {E : En} {O O1 : Own} {σ : L2.St} {H H1 : Hp}
theorem Rep.step (h : Rep K E O σ H) (a : Stp K O H O1 H1) : Rep K E O1 σ H1 := ⟨h.len, a.ok, fun i r e => by
  obtain ⟨v, q, z⟩ := h.sl i r e
  exact ⟨v, q, a.sv z⟩⟩
theorem Rep.set (h : Rep K E O σ H) (i : Nat) {v : V} {r : SV} (q : SVr K (vis O H) v r) : Rep K (E.set i (some r)) O (σ.set i (some v)) H := ⟨by rw [List.length_set, List.length_set]; exact h.len, h.own, fun j r' e => by
  by_cases hj : i = j
  · subst hj
    by_cases hl : i < E.length
    · rw [List.getElem?_set_self hl] at e
      cases e
      refine ⟨v, ?_, q⟩
      rw [List.getElem?_set_self (by rw [h.len]; exact hl)]
    · rw [List.getElem?_eq_none (by rw [List.length_set]; omega)] at e
      cases e
  · rw [List.getElem?_set_ne hj] at e
    rw [List.getElem?_set_ne hj]
    exact h.sl j r' e⟩
/-- some names forgotten -/
theorem Rep.weak {E' : En} (h : Rep K E O σ H) (hl : E'.length = E.length) (hs : ∀ (i : Nat) (r : SV), E'[i]? = some (some r) → E[i]? = some (some r)) : Rep K E' O σ H := ⟨h.len.trans hl.symm, h.own, fun i r e => h.sl i r (hs i r e)⟩
end

/-! ### the judgements by the machine itself -/
section
variable (X : Cx)
def WE (e : Expr) : TE := fun σ H Q => ∀ pins s, Inv X pins σ H s → wpAny (model X.prog X.w) X.A (eval e X.env) (EP X pins σ Q) X.xe s
def WT (e : Expr) : TT := fun σ H Q => ∀ pins s, Inv X pins σ H s → wpAny (model X.prog X.w) X.A (isTrue e X.env (eval e X.env)) (TP X pins σ Q) X.xe s
def WA (es : List Expr) : TA := fun σ H Q => ∀ (pos : Pos) pins s, Inv X pins σ H s → wpAny (model X.prog X.w) X.A (spliced (backTo pos (starEach es X.env))) (AP X pins σ Q) X.xe s
def WS (st : Stmt) : TS := fun D σ H => ∀ pins s, Inv X pins σ H s → wpAny (model X.prog X.w) X.A (exec st X.env) (SP X pins D) X.xe s
def WSs (st : List Stmt) : TS := fun D σ H => ∀ pins s, Inv X pins σ H s → wpAny (model X.prog X.w) X.A (execs st X.env) (SP X pins D) X.xe s
end
section
variable {X : Cx} {e : Expr} {es : List Expr} {st : Stmt} {sts : List Stmt} {σ : L2.St} {H : Hp}
theorem WE.pe : PE X e (WE X e) := ⟨fun pins s _ _ _ I h => h pins s I⟩
theorem WT.pt : PT X e (WT X e) := ⟨fun pins s _ _ _ I h => h pins s I⟩
theorem WA.pa : PA X es (WA X es) := ⟨fun pos pins s _ _ _ I h => h pos pins s I⟩
theorem WS.ps : PS X st (WS X st) := ⟨fun pins s _ _ _ I h => h pins s I⟩
theorem WSs.pss : PSs X sts (WSs X sts) := ⟨fun pins s _ _ _ I h => h pins s I⟩
theorem we_of {t : TE} {Q : VK} (p : PE X e t) (h : t σ H Q) : WE X e σ H Q := fun pins s I => p.run pins s σ H Q I h
theorem wt_of {t : TT} {Q : Bool → Hp → Prop} (p : PT X e t) (h : t σ H Q) : WT X e σ H Q := fun pins s I => p.run pins s σ H Q I h
theorem wa_of {t : TA} {Q : List V → Hp → Prop} (p : PA X es t) (h : t σ H Q) : WA X es σ H Q := fun pos pins s I => p.run pos pins s σ H Q I h
theorem ws_of {t : TS} {D : Ends} (p : PS X st t) (h : t D σ H) : WS X st D σ H := fun pins s I => p.run pins s σ H D I h
theorem wss_of {t : TS} {D : Ends} (p : PSs X sts t) (h : t D σ H) : WSs X sts D σ H := fun pins s I => p.run pins s σ H D I h
end
end Py
namespace Py
open PySem PySem.Spec PyProof.Rows L2

abbrev vI (n : Int) : SV := .d (.int n)
abbrev vB (b : Bool) : SV := .d (.bool b)
abbrev vS (x : Str) : SV := .d (.str x)
abbrev vT (ds : List PyData) : SV := .d (.tuple ds)
abbrev vL (ds : List PyData) : SV := .d (.list ds)
abbrev vN : SV := .d .none

/-! ### judgements -/
abbrev Kont (K : PySem.W.Frag) (O : Own) (H : Hp) (Φ : SV → Own → Prop) (Q : VK) : Prop := ∀ v H' r O', Φ r O' → Stp K O H O' H' → SVr K (vis O' H') v r → Q v H'
abbrev is1 (r : SV) (O : Own) : SV → Own → Prop := fun r' O' => r' = r ∧ O' = O
def EG (X : Cx) (e : Expr) (E : En) (O : Own) (Φ : SV → Own → Prop) : Prop := ∀ σ H, Rep X.K E O σ H → ∀ Q : VK, Kont X.K O H Φ Q → WE X e σ H Q
abbrev EX (X : Cx) (e : Expr) (E : En) (O : Own) (r : SV) : Prop := EG X e E O (is1 r O)
def TQ (X : Cx) (e : Expr) (E : En) (O : Own) (Φ : Bool → Own → Prop) : Prop := ∀ σ H, Rep X.K E O σ H → ∀ Q : Bool → Hp → Prop, (∀ b H' O', Φ b O' → Stp X.K O H O' H' → Q b H') → WT X e σ H Q
abbrev isB (b : Bool) (O : Own) : Bool → Own → Prop := fun b' O' => b' = b ∧ O' = O
abbrev ET (X : Cx) (e : Expr) (E : En) (O : Own) (b : Bool) : Prop := TQ X e E O (isB b O)
def WW (X : Cx) (e : Expr) : TT := fun σ H Q => ∀ (whole : Sem Value) pins s, Inv X pins σ H s → wpAny (model X.prog X.w) X.A (isTrue e X.env whole) (TP X pins σ Q) X.xe s
theorem WW.pw {X : Cx} {e : Expr} : PW X e (WW X e) := ⟨fun whole pins s _ _ _ I h => h whole pins s I⟩
theorem ww_of {X : Cx} {e : Expr} {σ : L2.St} {H : Hp} {t : TT} {Q : Bool → Hp → Prop} (p : PW X e t) (h : t σ H Q) : WW X e σ H Q := fun whole pins s I => p.run whole pins s σ H Q I h
def WQ (X : Cx) (e : Expr) (E : En) (O : Own) (Φ : Bool → Own → Prop) : Prop := ∀ σ H, Rep X.K E O σ H → ∀ Q : Bool → Hp → Prop, (∀ b H' O', Φ b O' → Stp X.K O H O' H' → Q b H') → WW X e σ H Q
abbrev EW (X : Cx) (e : Expr) (E : En) (O : Own) (b : Bool) : Prop := WQ X e E O (isB b O)
inductive SVs (K : PySem.W.Frag) (W : Hp) : List V → List SV → Prop
  | nil : SVs K W [] []
  | cons {v : V} {vs : List V} {r : SV} {rs : List SV} : SVr K W v r → SVs K W vs rs → SVs K W (v :: vs) (r :: rs)
theorem SVs.sub {K : PySem.W.Frag} {W W' : Hp} (e : Sub W W') : ∀ {vs : List V} {rs : List SV}, SVs K W vs rs → SVs K W' vs rs
  | _, _, .nil => .nil
  | _, _, .cons h t => .cons (h.sub e) (t.sub e)
theorem SVs.len {K : PySem.W.Frag} {W : Hp} : ∀ {vs : List V} {rs : List SV}, SVs K W vs rs → vs.length = rs.length
  | _, _, .nil => rfl
  | _, _, .cons _ t => by rw [List.length_cons, List.length_cons, t.len]
theorem SVs.data {K : PySem.W.Frag} {W : Hp} : ∀ {vs : List V} {ds : List PyData}, SVs K W vs (ds.map SV.d) → DqAll W vs ds
  | _, [], .nil => .nil
  | _, _ :: _, .cons h t => .cons h t.data
theorem SVs.of {K : PySem.W.Frag} {W : Hp} : ∀ {vs : List V} {ds : List PyData}, DqAll W vs ds → SVs K W vs (ds.map SV.d)
  | _, [], .nil => .nil
  | _, _ :: _, .cons h t => .cons h (SVs.of t)
def AQ (X : Cx) (es : List Expr) (E : En) (O : Own) (Φ : List SV → Own → Prop) : Prop := ∀ σ H, Rep X.K E O σ H → ∀ Q : List V → Hp → Prop, (∀ vs H' rs O', Φ rs O' → Stp X.K O H O' H' → SVs X.K (vis O' H') vs rs → Q vs H') → WA X es σ H Q
abbrev isA (rs : List SV) (O : Own) : List SV → Own → Prop := fun rs' O' => rs' = rs ∧ O' = O
abbrev EA (X : Cx) (es : List Expr) (E : En) (O : Own) (rs : List SV) : Prop := AQ X es E O (isA rs O)

section
variable {X : Cx} {a b c e : Expr} {es : List Expr} {E : En} {O : Own} {pos : Pos}

theorem EG.mono {Φ Ψ : SV → Own → Prop} (h : EG X e E O Φ) (k : ∀ r O', Φ r O' → Ψ r O') : EG X e E O Ψ := fun σ H R Q q => h σ H R Q fun v H' r O' f st z => q v H' r O' (k r O' f) st z
theorem EX.cast {r r' : SV} (h : EX X e E O r) (k : r = r') : EX X e E O r' := by
  subst k
  exact h
theorem ET.cast {b b' : Bool} (h : ET X e E O b) (k : b = b') : ET X e E O b' := by
  subst k
  exact h

/-! names, constants -/
theorem x_var (i : Nat) {x : Str} {r : SV} (h : E[i]? = some (some r) := by rfl) (hN : X.N[i]? = some x := by rfl) (hv : Vis X.env.scope x := by first | exact Or.inl rfl | exact Or.inr (Or.inl rfl) | exact Or.inr (Or.inr rfl)) (hd : (x == ("__debug__" : Str)) = false := by decide)
    (hcd : (x == ("__classdict__" : Str)) = false := by decide) : EX X (.Name x pos) E O r := fun σ H R Q q => we_of (pe_var hN hv hd hcd) (by
  obtain ⟨v, e, z⟩ := R.sl i r h
  exact ⟨v, e, q v H r O ⟨rfl, rfl⟩ (.refl R.own) z⟩)
theorem x_int {n : Int} {j : Nat} : EX X (.Constant (.int n) j pos) E O (vI n) := fun σ H R Q q => we_of pe_int (q _ H _ O ⟨rfl, rfl⟩ (.refl R.own) (.int n))
theorem x_bl {n : Bool} {j : Nat} : EX X (.Constant (.bool n) j pos) E O (vB n) := fun σ H R Q q => we_of pe_bl (q _ H _ O ⟨rfl, rfl⟩ (.refl R.own) (.bl n))
theorem x_str {n : Str} {j : Nat} : EX X (.Constant (.str n) j pos) E O (vS n) := fun σ H R Q q => we_of pe_str (q _ H _ O ⟨rfl, rfl⟩ (.refl R.own) (.str n))
theorem x_non {j : Nat} : EX X (.Constant .none j pos) E O vN := fun σ H R Q q => we_of pe_non (q _ H _ O ⟨rfl, rfl⟩ (.refl R.own) .non)
theorem x_glob {x : Str} {v : V} {u : Value} {r : SV} (hg : Gl X x) (hm : X.mg x = some u) (rv : RelV v u) (hr : ∀ W, SVr X.K W v r) (hd : (x == ("__debug__" : Str)) = false := by decide) : EX X (.Name x pos) E O r :=
  fun σ H R Q q => we_of (pe_glob hg hm rv hd) (q _ H _ O ⟨rfl, rfl⟩ (.refl R.own) (hr _))

/-! operations -/
theorem g_op {rr : R2} {Φ Ψ : SV → Own → Prop} (p : PE X e (tOp rr (WE X a) (WE X b))) (ha : EG X a E O Φ)
    (hb : ∀ r1 O1, Φ r1 O1 → EG X b E O1 fun r2 O2 => ∀ x y H2, OwnOk X.K O2 H2 → SVr X.K (vis O2 H2) x r1 → SVr X.K (vis O2 H2) y r2 → ∀ Q, Kont X.K O2 H2 Ψ Q → rr x y H2 Q) : EG X e E O Ψ := fun σ H R Q q => we_of p (by
  refine ha σ H R _ fun x H1 r1 O1 f1 s1 z1 => ?_
  refine hb r1 O1 f1 σ H1 (R.step s1) _ fun y H2 r2 O2 f2 s2 z2 => ?_
  exact f2 x y H2 s2.ok (s2.sv z1) z2 Q fun v H' r O' f s z => q v H' r O' f ((s1.trans s2).trans s) z)
theorem x_op {rr : R2} {r1 r2 r : SV} (p : PE X e (tOp rr (WE X a) (WE X b))) (ha : EX X a E O r1) (hb : EX X b E O r2)
    (h : ∀ x y H, OwnOk X.K O H → SVr X.K (vis O H) x r1 → SVr X.K (vis O H) y r2 → ∀ Q, Kont X.K O H (is1 r O) Q → rr x y H Q) : EX X e E O r :=
  g_op p ha fun _ _ ⟨e1, e2⟩ => by
    subst e1; subst e2
    exact hb.mono fun _ _ ⟨e1, e2⟩ => by
      subst e1; subst e2
      exact h
theorem g_un {rr : V → Hp → VK → Prop} {Φ Ψ : SV → Own → Prop} (p : PE X e (tUn rr (WE X a))) (ha : EG X a E O Φ)
    (h : ∀ r1 O1, Φ r1 O1 → ∀ x H1, OwnOk X.K O1 H1 → SVr X.K (vis O1 H1) x r1 → ∀ Q, Kont X.K O1 H1 Ψ Q → rr x H1 Q) : EG X e E O Ψ := fun σ H R Q q => we_of p (by
  refine ha σ H R _ fun x H1 r1 O1 f1 s1 z1 => ?_
  exact h r1 O1 f1 x H1 s1.ok z1 Q fun v H' r O' f s z => q v H' r O' f (s1.trans s) z)
theorem int_of {K : PySem.W.Frag} {W : Hp} {v : V} {i : Int} (h : SVr K W v (vI i)) : v = .int i := by cases h; rfl
theorem bl_of {K : PySem.W.Frag} {W : Hp} {v : V} {i : Bool} (h : SVr K W v (vB i)) : v = .bl i := by cases h; rfl
theorem str_of {K : PySem.W.Frag} {W : Hp} {v : V} {i : Str} (h : SVr K W v (vS i)) : v = .str i := by cases h; rfl
theorem non_of {K : PySem.W.Frag} {W : Hp} {v : V} (h : SVr K W v vN) : v = .non := by cases h; rfl
theorem lst_of {K : PySem.W.Frag} {W : Hp} {v : V} {ds : List PyData} (h : SVr K W v (vL ds)) : ∃ a vs, v = .ref a ∧ W a = some (.lst vs) ∧ DqAll W vs ds := by
  cases h with
  | lst h1 h2 => exact ⟨_, _, rfl, h1, h2⟩
theorem tup_of {K : PySem.W.Frag} {W : Hp} {v : V} {ds : List PyData} (h : SVr K W v (vT ds)) : ∃ a vs, v = .ref a ∧ Rd W a (.tup vs) ∧ DqAll W vs ds := by
  cases h with
  | tup h1 h2 => exact ⟨_, _, rfl, h1, h2⟩
theorem x_I0 {rr : R2} {g : Int → Int → V} {k : Int → Int → PyData} {i j : Int} (hr : rr = rI0 g) (p : PE X e (tOp rr (WE X a) (WE X b))) (hk : ∀ W, Dq W (g i j) (k i j)) (ha : EX X a E O (vI i)) (hb : EX X b E O (vI j)) : EX X e E O (.d (k i j)) := by
  subst hr
  refine x_op p ha hb fun x y H ok hx hy Q q => ?_
  exact ⟨i, j, int_of hx, int_of hy, q _ H _ O ⟨rfl, rfl⟩ (.refl ok) (hk _)⟩
theorem x_I {rr : R2} {C : Int → Int → Prop} {g : Int → Int → V} {k : Int → Int → PyData} {i j : Int} (hr : rr = rI C g) (p : PE X e (tOp rr (WE X a) (WE X b))) (hk : ∀ W, Dq W (g i j) (k i j)) (ha : EX X a E O (vI i)) (hb : EX X b E O (vI j)) (hc : C i j) : EX X e E O (.d (k i j)) := by
  subst hr
  refine x_op p ha hb fun x y H ok hx hy Q q => ?_
  exact ⟨i, j, int_of hx, int_of hy, hc, q _ H _ O ⟨rfl, rfl⟩ (.refl ok) (hk _)⟩
variable {i j : Int}
theorem x_add (ha : EX X a E O (vI i)) (hb : EX X b E O (vI j)) : EX X (.BinOp a .Add b pos) E O (vI (i + j)) := x_I0 (k := fun i j => .int (i + j)) rfl (pe_op op_add WE.pe WE.pe) (fun _ => .int _) ha hb
theorem x_sub (ha : EX X a E O (vI i)) (hb : EX X b E O (vI j)) : EX X (.BinOp a .Sub b pos) E O (vI (i - j)) := x_I0 (k := fun i j => .int (i - j)) rfl (pe_op op_sub WE.pe WE.pe) (fun _ => .int _) ha hb
theorem x_mul (ha : EX X a E O (vI i)) (hb : EX X b E O (vI j)) (h : CMul i j) : EX X (.BinOp a .Mult b pos) E O (vI (i * j)) := x_I (k := fun i j => .int (i * j)) rfl (pe_op op_mul WE.pe WE.pe) (fun _ => .int _) ha hb h
theorem x_fdiv (ha : EX X a E O (vI i)) (hb : EX X b E O (vI j)) (h : 0 < j ∧ j < 1073741824) : EX X (.BinOp a .FloorDiv b pos) E O (vI (i / j)) := x_I (k := fun i j => .int (i / j)) rfl (pe_op op_fdiv WE.pe WE.pe) (fun _ => .int _) ha hb h
theorem x_mod (ha : EX X a E O (vI i)) (hb : EX X b E O (vI j)) (h : 0 < j) : EX X (.BinOp a .Mod b pos) E O (vI (i % j)) := x_I (k := fun i j => .int (i % j)) rfl (pe_op op_mod WE.pe WE.pe) (fun _ => .int _) ha hb h
theorem x_pow (ha : EX X a E O (vI i)) (hb : EX X b E O (vI j)) (h : 0 ≤ j ∧ j ≤ 1000000 ∧ i.natAbs < 2 ^ 64) : EX X (.BinOp a .Pow b pos) E O (vI (i ^ j.toNat)) := x_I (k := fun i j => .int (i ^ j.toNat)) rfl (pe_op op_pow WE.pe WE.pe) (fun _ => .int _) ha hb h
theorem x_neg (ha : EX X a E O (vI i)) : EX X (.UnaryOp .USub a pos) E O (vI (-i)) := by
  refine g_un (pe_un un_neg WE.pe) ha fun r1 O1 ⟨e1, e2⟩ x H1 ok z Q q => ?_
  subst e1; subst e2
  exact ⟨i, int_of z, q _ H1 _ _ ⟨rfl, rfl⟩ (.refl ok) (.int _)⟩

/-! comparisons -/
def WC (X : Cx) (op : CmpOp) (a b : Expr) : TE := fun σ H Q => ∀ pins s, Inv X pins σ H s →
  wpAny (model X.prog X.w) X.A (eval a X.env) (fun v s₁ => wpAny (model X.prog X.w) X.A (eval b X.env) (fun u s₂ => wpAny (model X.prog X.w) X.A (compareOp op v u) (EP X pins σ Q) X.xe s₂) X.xe s₁) X.xe s
theorem WC.pc {op : CmpOp} : PC X op a b (WC X op a b) := ⟨fun pins s _ _ _ I h => h pins s I⟩
theorem wc_of {op : CmpOp} {t : TE} {σ : L2.St} {H : Hp} {Q : VK} (p : PC X op a b t) (h : t σ H Q) : WC X op a b σ H Q := fun pins s I => p.run pins s σ H Q I h
theorem pc_op {op : CmpOp} {rr : R2} {ta tb : TE} (ho : OpR X (compareOp op) rr) (ha : PE X a ta) (hb : PE X b tb) : PC X op a b (tOp rr ta tb) := ⟨fun pins s σ H Q I h =>
  thn (ha.run pins s σ H _ I h) fun v s1 ⟨x, H1, I1, r1, q1⟩ => thn (hb.run pins s1 σ H1 _ I1 q1) fun u s2 ⟨y, H2, I2, r2, q2⟩ => ho pins s2 σ H2 x y v u _ I2 r1 r2 q2⟩
def CG (X : Cx) (op : CmpOp) (a b : Expr) (E : En) (O : Own) (Φ : SV → Own → Prop) : Prop := ∀ σ H, Rep X.K E O σ H → ∀ Q : VK, Kont X.K O H Φ Q → WC X op a b σ H Q
abbrev CX1 (X : Cx) (op : CmpOp) (a b : Expr) (E : En) (O : Own) (k : Bool) : Prop := CG X op a b E O (is1 (vB k) O)
/-- a comparison as a value, as a test -/
theorem xc {op : CmpOp} {k : Bool} (h : CX1 X op a b E O k) (h1 : behindInMarks op b = false := by first | exact nobehind _ (by decide) (by decide) | rfl) : EX X (.Compare a [op] [b] pos) E O (vB k) := fun σ H R Q q => we_of (pe_cmp WC.pc h1) (h σ H R Q q)
theorem tc {op : CmpOp} {k : Bool} (h : CX1 X op a b E O k) (h1 : behindInMarks op b = false := by first | exact nobehind _ (by decide) (by decide) | rfl) : ET X (.Compare a [op] [b] pos) E O k := fun σ H R Q q => wt_of (pt_cmp WC.pc h1) (by
  refine h σ H R _ fun v H' r O' ⟨e1, e2⟩ s z => ?_
  subst e1; subst e2
  exact ⟨k, bl_of z, q k H' _ ⟨rfl, rfl⟩ s⟩)
theorem CX1.cast {op : CmpOp} {k k' : Bool} (h : CX1 X op a b E O k) (e : k = k') : CX1 X op a b E O k' := by
  subst e
  exact h
theorem gc_op {op : CmpOp} {rr : R2} {Φ Ψ : SV → Own → Prop} (ho : OpR X (compareOp op) rr) (ha : EG X a E O Φ)
    (hb : ∀ r1 O1, Φ r1 O1 → EG X b E O1 fun r2 O2 => ∀ x y H2, OwnOk X.K O2 H2 → SVr X.K (vis O2 H2) x r1 → SVr X.K (vis O2 H2) y r2 → ∀ Q, Kont X.K O2 H2 Ψ Q → rr x y H2 Q) : CG X op a b E O Ψ := fun σ H R Q q => wc_of (pc_op ho WE.pe WE.pe) (by
  refine ha σ H R _ fun x H1 r1 O1 f1 s1 z1 => ?_
  refine hb r1 O1 f1 σ H1 (R.step s1) _ fun y H2 r2 O2 f2 s2 z2 => ?_
  exact f2 x y H2 s2.ok (s2.sv z1) z2 Q fun v H' r O' f s z => q v H' r O' f ((s1.trans s2).trans s) z)
theorem c_op {op : CmpOp} {rr : R2} {r1 r2 : SV} {k : Bool} (ho : OpR X (compareOp op) rr) (ha : EX X a E O r1) (hb : EX X b E O r2)
    (h : ∀ x y H, OwnOk X.K O H → SVr X.K (vis O H) x r1 → SVr X.K (vis O H) y r2 → ∀ Q, Kont X.K O H (is1 (vB k) O) Q → rr x y H Q) : CX1 X op a b E O k :=
  gc_op ho ha fun _ _ ⟨e1, e2⟩ => by
    subst e1; subst e2
    exact hb.mono fun _ _ ⟨e1, e2⟩ => by
      subst e1; subst e2
      exact h
theorem c_I {op : CmpOp} {f : Int → Int → Bool} (ho : OpR X (compareOp op) (rI0 fun i j => .bl (f i j))) (ha : EX X a E O (vI i)) (hb : EX X b E O (vI j)) : CX1 X op a b E O (f i j) :=
  c_op ho ha hb fun x y H ok hx hy Q q => ⟨i, j, int_of hx, int_of hy, q _ H _ O ⟨rfl, rfl⟩ (.refl ok) (.bl _)⟩
theorem c_lt (ha : EX X a E O (vI i)) (hb : EX X b E O (vI j)) : CX1 X .Lt a b E O (decide (i < j)) := c_I op_lt ha hb
theorem c_le (ha : EX X a E O (vI i)) (hb : EX X b E O (vI j)) : CX1 X .LtE a b E O (decide (i ≤ j)) := c_I op_le ha hb
theorem c_gt (ha : EX X a E O (vI i)) (hb : EX X b E O (vI j)) : CX1 X .Gt a b E O (decide (j < i)) := c_I op_gt ha hb
theorem c_ge (ha : EX X a E O (vI i)) (hb : EX X b E O (vI j)) : CX1 X .GtE a b E O (decide (j ≤ i)) := c_I op_ge ha hb
theorem c_eqD {d d' : PyData} (ha : EX X a E O (.d d)) (hb : EX X b E O (.d d')) (h1 : SeqAt.shaped d = true) (h2 : SeqAt.shaped d' = true) (hu : X.A.units + 64 < cLine := by assumption) : CX1 X .Eq a b E O (PyData.eqv d d') :=
  c_op (op_eqD hu) ha hb fun x y H ok hx hy Q q => ⟨d, d', dq_dp _ _ (dp_sub (vis_sub _ _) _ _ hx), dq_dp _ _ (dp_sub (vis_sub _ _) _ _ hy), h1, h2, q _ H _ O ⟨rfl, rfl⟩ (.refl ok) (.bl _)⟩
theorem c_neD {d d' : PyData} (ha : EX X a E O (.d d)) (hb : EX X b E O (.d d')) (h1 : SeqAt.shaped d = true) (h2 : SeqAt.shaped d' = true) (hu : X.A.units + 64 < cLine := by assumption) : CX1 X .NotEq a b E O (!PyData.eqv d d') :=
  c_op (op_neD hu) ha hb fun x y H ok hx hy Q q => ⟨d, d', dq_dp _ _ (dp_sub (vis_sub _ _) _ _ hx), dq_dp _ _ (dp_sub (vis_sub _ _) _ _ hy), h1, h2, q _ H _ O ⟨rfl, rfl⟩ (.refl ok) (.bl _)⟩
theorem c_eq (ha : EX X a E O (vI i)) (hb : EX X b E O (vI j)) (hu : X.A.units + 64 < cLine := by assumption) : CX1 X .Eq a b E O (i == j) := c_eqD ha hb rfl rfl hu
theorem c_ne (ha : EX X a E O (vI i)) (hb : EX X b E O (vI j)) (hu : X.A.units + 64 < cLine := by assumption) : CX1 X .NotEq a b E O (!(i == j)) := c_neD ha hb rfl rfl hu

/-! tests -/
theorem t_val {b : Bool} (h : EX X e E O (vB b)) (he : ∀ whole, isTrue e X.env whole = (do let v ← whole; standAt e.pos; holding [v] (truthy v)) := by intro _; rfl) : ET X e E O b := fun σ H R Q q => wt_of (pt_val WE.pe he) (by
  refine h σ H R _ fun v H' r O' ⟨e1, e2⟩ s z => ?_
  subst e1; subst e2
  exact ⟨b, bl_of z, q b H' _ ⟨rfl, rfl⟩ s⟩)
theorem t_w {b : Bool} (h : EW X e E O b) : ET X e E O b := fun σ H R Q q => wt_of WW.pw.pt (h σ H R Q q)
theorem w_and1 {b : Bool} (h : ET X a E O b) : EW X (.BoolOp .And [a] pos) E O b := fun σ H R Q q => ww_of (pw_and1 WT.pt) (h σ H R Q q)
theorem w_or1 {b : Bool} (h : ET X a E O b) : EW X (.BoolOp .Or [a] pos) E O b := fun σ H R Q q => ww_of (pw_or1 WT.pt) (h σ H R Q q)
theorem w_and {k k' : Bool} (h : ET X a E O k) (h' : k = true → EW X (.BoolOp .And (b :: es) pos) E O k') : EW X (.BoolOp .And (a :: b :: es) pos) E O (k && k') := fun σ H R Q q => ww_of (pw_and WT.pt WW.pw) (by
  refine h σ H R _ fun k1 H1 O1 ⟨e1, e2⟩ s1 => ?_
  subst e1; subst e2
  cases k1 with
  | true =>
    rw [if_pos rfl]
    exact h' rfl σ H1 (R.step s1) Q fun k2 H2 O2 ⟨e1, e2⟩ s2 => by
      subst e1; subst e2
      exact q _ H2 _ ⟨by simp, rfl⟩ (s1.trans s2)
  | false =>
    rw [if_neg Bool.false_ne_true]
    exact q _ H1 _ ⟨by simp, rfl⟩ s1)
theorem w_or {k k' : Bool} (h : ET X a E O k) (h' : k = false → EW X (.BoolOp .Or (b :: es) pos) E O k') : EW X (.BoolOp .Or (a :: b :: es) pos) E O (k || k') := fun σ H R Q q => ww_of (pw_or WT.pt WW.pw) (by
  refine h σ H R _ fun k1 H1 O1 ⟨e1, e2⟩ s1 => ?_
  subst e1; subst e2
  cases k1 with
  | true =>
    rw [if_pos rfl]
    exact q _ H1 _ ⟨by simp, rfl⟩ s1
  | false =>
    rw [if_neg Bool.false_ne_true]
    exact h' rfl σ H1 (R.step s1) Q fun k2 H2 O2 ⟨e1, e2⟩ s2 => by
      subst e1; subst e2
      exact q _ H2 _ ⟨by simp, rfl⟩ (s1.trans s2))
theorem t_not {k : Bool} (h : ET X a E O k) : ET X (.UnaryOp .Not a pos) E O (!k) := fun σ H R Q q => wt_of (pt_not WT.pt) (by
  refine h σ H R _ fun k1 H1 O1 ⟨e1, e2⟩ s1 => ?_
  subst e1; subst e2
  exact q _ H1 _ ⟨rfl, rfl⟩ s1)
theorem x_one {op : BoolOp} {r : SV} (h : EX X a E O r) : EX X (.BoolOp op [a] pos) E O r := fun σ H R Q q => we_of (pe_one WE.pe) (h σ H R Q q)
theorem x_and {k k' : Bool} (h : EX X a E O (vB k)) (h' : k = true → EX X (.BoolOp .And (b :: es) pos) E O (vB k')) : EX X (.BoolOp .And (a :: b :: es) pos) E O (vB (k && k')) := fun σ H R Q q => we_of (pe_and WE.pe WE.pe) (by
  refine h σ H R _ fun v H1 r O1 ⟨e1, e2⟩ s1 z => ?_
  subst e1; subst e2
  refine ⟨k, bl_of z, ?_⟩
  cases k with
  | true =>
    rw [if_pos rfl]
    exact h' rfl σ H1 (R.step s1) Q fun v H2 r O2 ⟨e1, e2⟩ s2 z2 => by
      subst e1; subst e2
      exact q _ H2 _ _ ⟨by simp, rfl⟩ (s1.trans s2) z2
  | false =>
    rw [if_neg Bool.false_ne_true]
    exact q _ H1 (vB false) _ ⟨by simp, rfl⟩ s1 (.bl false))
theorem x_or {k k' : Bool} (h : EX X a E O (vB k)) (h' : k = false → EX X (.BoolOp .Or (b :: es) pos) E O (vB k')) : EX X (.BoolOp .Or (a :: b :: es) pos) E O (vB (k || k')) := fun σ H R Q q => we_of (pe_or WE.pe WE.pe) (by
  refine h σ H R _ fun v H1 r O1 ⟨e1, e2⟩ s1 z => ?_
  subst e1; subst e2
  refine ⟨k, bl_of z, ?_⟩
  cases k with
  | true =>
    rw [if_pos rfl]
    exact q _ H1 (vB true) _ ⟨by simp, rfl⟩ s1 (.bl true)
  | false =>
    rw [if_neg Bool.false_ne_true]
    exact h' rfl σ H1 (R.step s1) Q fun v H2 r O2 ⟨e1, e2⟩ s2 z2 => by
      subst e1; subst e2
      exact q _ H2 _ _ ⟨by simp, rfl⟩ (s1.trans s2) z2)
theorem x_not {k : Bool} (h : EX X a E O (vB k)) : EX X (.UnaryOp .Not a pos) E O (vB (!k)) := fun σ H R Q q => we_of (pe_not WE.pe) (by
  refine h σ H R _ fun v H1 r O1 ⟨e1, e2⟩ s1 z => ?_
  subst e1; subst e2
  exact ⟨k, bl_of z, q _ H1 _ _ ⟨rfl, rfl⟩ s1 (.bl _)⟩)
/-- a is None, of data -/
def isNon : PyData → Bool
  | .none => true
  | _ => false
theorem dp_non {W : Hp} {v : V} {d : PyData} (h : Dq W v d) : decide (v = .non) = isNon d := by
  cases h <;> rfl
theorem c_isN {d : PyData} {j : Nat} {pos' : Pos} (h : EX X a E O (.d d)) : CX1 X .Is a (.Constant .none j pos') E O (isNon d) := fun σ H R Q q => wc_of (pc_isN WE.pe) (by
  refine h σ H R _ fun v H1 r O1 ⟨e1, e2⟩ s1 z => ?_
  subst e1; subst e2
  exact q _ H1 _ _ ⟨rfl, rfl⟩ s1 (by rw [dp_non z]; exact .bl _))
theorem c_notN {d : PyData} {j : Nat} {pos' : Pos} (h : EX X a E O (.d d)) : CX1 X .IsNot a (.Constant .none j pos') E O (!isNon d) := fun σ H R Q q => wc_of (pc_notN WE.pe) (by
  refine h σ H R _ fun v H1 r O1 ⟨e1, e2⟩ s1 z => ?_
  subst e1; subst e2
  exact q _ H1 _ _ ⟨rfl, rfl⟩ s1 (by rw [dp_non z]; exact .bl _))
/-- a < b < c of ints -/
theorem chain_core {f g : Int → Int → Bool} {k : Int} (ha : EX X a E O (vI i)) (hb : EX X b E O (vI j)) (hc : EX X c E O (vI k)) {σ : L2.St} {H : Hp} (R : Rep X.K E O σ H) {Q : VK} (q : Kont X.K O H (is1 (vB (f i j && g j k)) O) Q) :
    tChain (rI0 fun i j => .bl (f i j)) (rI0 fun i j => .bl (g i j)) (WE X a) (WE X b) (WE X c) σ H Q := by
  refine ha σ H R _ fun x H1 r1 O1 ⟨e1, e2⟩ s1 z1 => ?_
  subst e1; subst e2
  refine hb σ H1 (R.step s1) _ fun y H2 r2 O2 ⟨e1, e2⟩ s2 z2 => ?_
  subst e1; subst e2
  refine ⟨i, j, int_of z1, int_of z2, f i j, rfl, ?_⟩
  cases hf : f i j with
  | true =>
    rw [if_pos rfl]
    refine hc σ H2 (R.step (s1.trans s2)) _ fun w H3 r3 O3 ⟨e1, e2⟩ s3 z3 => ?_
    subst e1; subst e2
    refine ⟨j, k, int_of z2, int_of z3, q _ H3 (vB (g j k)) _ ⟨by simp [hf], rfl⟩ ((s1.trans s2).trans s3) (.bl _)⟩
  | false =>
    rw [if_neg Bool.false_ne_true]
    exact q _ H2 (vB false) _ ⟨by simp [hf], rfl⟩ (s1.trans s2) (.bl _)
theorem x_chain {op op' : CmpOp} {f g : Int → Int → Bool} {k : Int} (h1 : OpR X (compareOp op) (rI0 fun i j => .bl (f i j))) (h2 : OpR X (compareOp op') (rI0 fun i j => .bl (g i j)))
    (ha : EX X a E O (vI i)) (hb : EX X b E O (vI j)) (hc : EX X c E O (vI k)) (hm : lastMarks [op, op'] [b, c] = false := by with_unfolding_all rfl) : EX X (.Compare a [op, op'] [b, c] pos) E O (vB (f i j && g j k)) := fun σ H R Q q => we_of (pe_chain h1 h2 WE.pe WE.pe WE.pe hm) (chain_core ha hb hc R q)
theorem t_chain {op op' : CmpOp} {f g : Int → Int → Bool} {k : Int} (h1 : OpR X (compareOp op) (rI0 fun i j => .bl (f i j))) (h2 : OpR X (compareOp op') (rI0 fun i j => .bl (g i j)))
    (ha : EX X a E O (vI i)) (hb : EX X b E O (vI j)) (hc : EX X c E O (vI k)) (hm : lastMarks [op, op'] [b, c] = false := by with_unfolding_all rfl) : ET X (.Compare a [op, op'] [b, c] pos) E O (f i j && g j k) := fun σ H R Q q => wt_of (pt_chain h1 h2 WE.pe WE.pe WE.pe hm)
  (chain_core (f := f) (g := g) ha hb hc R fun v H' r O' ⟨e1, e2⟩ s z => by
    subst e1; subst e2
    exact ⟨_, bl_of z, q _ H' _ ⟨rfl, rfl⟩ s⟩)

/-! arguments, displays -/
theorem a_nil : EA X [] E O [] := fun σ H R Q q => wa_of pa_nil (q _ H _ _ ⟨rfl, rfl⟩ (.refl R.own) .nil)
theorem a_cons {r : SV} {rs : List SV} (h : EX X e E O r) (hr : EA X es E O rs) (hs : starEach (e :: es) X.env = (false, eval e X.env) :: starEach es X.env := by rfl) : EA X (e :: es) E O (r :: rs) := fun σ H R Q q => wa_of (pa_cons WE.pe WA.pa hs) (by
  refine h σ H R _ fun v H1 r1 O1 ⟨e1, e2⟩ s1 z1 => ?_
  subst e1; subst e2
  refine hr σ H1 (R.step s1) _ fun vs H2 rs2 O2 ⟨e1, e2⟩ s2 z2 => ?_
  subst e1; subst e2
  exact q _ H2 _ _ ⟨rfl, rfl⟩ (s1.trans s2) (.cons (s2.sv z1) z2))
theorem x_tup {ds : List PyData} {k : Nat} (h : EA X es E O (ds.map .d)) (hl : ds.length ≤ 100000) : EX X (.Tuple es k pos) E O (vT ds) := fun σ H R Q q => we_of (pe_tup WA.pa) (by
  refine h σ H R _ fun vs H1 rs O1 ⟨e1, e2⟩ s1 z1 => ?_
  subst e1; subst e2
  have hd := z1.data
  refine ⟨by rw [dpa_len hd]; exact Nat.le_trans hl (by decide), fun p hp => ?_⟩
  have s2 := Stp.laid (o := .tup vs) s1.ok hp
  exact q _ _ _ _ ⟨rfl, rfl⟩ (s1.trans s2) (.tup (.inl (vis_laid s1.ok hp)) (dpAll_sub s2.vis _ _ hd)))
theorem x_lst {ds : List PyData} (h : EA X es E O (ds.map .d)) (hl : ds.length ≤ 100000) : EX X (.List es pos) E O (vL ds) := fun σ H R Q q => we_of (pe_lst WA.pa) (by
  refine h σ H R _ fun vs H1 rs O1 ⟨e1, e2⟩ s1 z1 => ?_
  subst e1; subst e2
  have hd := z1.data
  refine ⟨by rw [dpa_len hd]; exact Nat.le_trans hl (by decide), fun p hp => ?_⟩
  have s2 := Stp.laid (o := .lst vs) s1.ok hp
  exact q _ _ _ _ ⟨rfl, rfl⟩ (s1.trans s2) (.lst (vis_laid s1.ok hp) (dpAll_sub s2.vis _ _ hd)))

/-! subscripts -/
theorem atI_map {W : Hp} {vs : List V} {ds : List PyData} {i : Int} {d : PyData} (h : DqAll W vs ds) (e : atI ds i = some d) : ∃ v, atI vs i = some v ∧ Dq W v d := by
  unfold atI at e ⊢
  rw [dpa_len h]
  cases q : ixN ds.length i with
  | none => rw [q] at e; cases e
  | some j =>
    rw [q] at e
    obtain ⟨v, h1, h2⟩ := dpa_at_ h (show ds[j]? = some d from e)
    exact ⟨v, h1, h2⟩
theorem x_ixT {ds : List PyData} {d : PyData} (ha : EX X a E O (vT ds)) (hb : EX X b E O (vI i)) (h : atI ds i = some d) (hs : PlainIx b := by exact fun _ _ => rfl) : EX X (.Subscript a b pos) E O (.d d) :=
  x_op (pe_ix ix_tup WE.pe WE.pe hs) ha hb fun x y H ok hx hy Q q => by
    obtain ⟨p, vs, e1, h1, h2⟩ := tup_of hx
    obtain ⟨v, h3, h4⟩ := atI_map h2 h
    exact ⟨p, vs, i, v, e1, int_of hy, .inl (rd_sub (vis_sub _ _) h1), h3, q _ H _ _ ⟨rfl, rfl⟩ (.refl ok) h4⟩
theorem x_ixL {ds : List PyData} {d : PyData} (ha : EX X a E O (vL ds)) (hb : EX X b E O (vI i)) (h : atI ds i = some d) (hs : PlainIx b := by exact fun _ _ => rfl) : EX X (.Subscript a b pos) E O (.d d) :=
  x_op (pe_ix ix_list WE.pe WE.pe hs) ha hb fun x y H ok hx hy Q q => by
    obtain ⟨p, vs, e1, h1, h2⟩ := lst_of hx
    obtain ⟨v, h3, h4⟩ := atI_map h2 h
    exact ⟨p, vs, i, v, e1, int_of hy, SqL.of (vis_sub _ _ _ _ h1), h3, q _ H _ _ ⟨rfl, rfl⟩ (.refl ok) h4⟩

/-! calls of built-ins by name -/
theorem g_cb {id : String} {x : Str} {p : Pos} {rr : List V → Hp → VK → Prop} {rs : List SV} {Ψ : SV → Own → Prop} (hc : CallR X (.builtin id) rr) (hg : Gl X x) (hm : X.mg x = none) (hv : bootBuiltins x = some (.builtin id)) (ha : EA X (e :: es) E O rs)
    (h : ∀ vs H, OwnOk X.K O H → SVs X.K (vis O H) vs rs → ∀ Q, Kont X.K O H Ψ Q → rr vs H Q) (hn : x ≠ "__name__") (hdb : (x == ("__debug__" : Str)) = false)
    (he : starEach (e :: es) X.env = (false, eval e X.env) :: starEach es X.env) (hpl : (backTo pos (starEach es X.env)).any (·.1) = false) : EG X (.Call (.Name x p) (e :: es) [] pos) E O Ψ := fun σ H R Q q => we_of (pe_callB hc hg hm hv WA.pa hn hdb he hpl) (by
  refine ha σ H R _ fun vs H1 rs1 O1 ⟨e1, e2⟩ s1 z1 => ?_
  subst e1; subst e2
  exact h vs H1 s1.ok z1 Q fun v H' r O' f s z => q v H' r O' f (s1.trans s) z)
theorem g_ct {id : String} {x : Str} {p : Pos} {rr : List V → Hp → VK → Prop} {rs : List SV} {Ψ : SV → Own → Prop} (hc : CallR X (.type id) rr) (hg : Gl X x) (hm : X.mg x = none) (hv : bootBuiltins x = some (.type id)) (ha : EA X (e :: es) E O rs)
    (h : ∀ vs H, OwnOk X.K O H → SVs X.K (vis O H) vs rs → ∀ Q, Kont X.K O H Ψ Q → rr vs H Q) (hn : x ≠ "__name__") (hdb : (x == ("__debug__" : Str)) = false)
    (he : starEach (e :: es) X.env = (false, eval e X.env) :: starEach es X.env) (hpl : (backTo pos (starEach es X.env)).any (·.1) = false) : EG X (.Call (.Name x p) (e :: es) [] pos) E O Ψ := fun σ H R Q q => we_of (pe_callTy hc hg hm hv WA.pa hn hdb he hpl) (by
  refine ha σ H R _ fun vs H1 rs1 O1 ⟨e1, e2⟩ s1 z1 => ?_
  subst e1; subst e2
  exact h vs H1 s1.ok z1 Q fun v H' r O' f s z => q v H' r O' f (s1.trans s) z)
end
end Py
namespace Py
open PySem PySem.Spec PyProof.Rows L2

/-! ### own objects: made, changed, let go -/
def setO (O : Own) (p : Addr) (o : OO) : Own := O.map fun q => if q.1 = p then (p, o) else q
theorem setO_keys (O : Own) (p : Addr) (o : OO) : (setO O p o).map (·.1) = O.map (·.1) := by
  unfold setO
  rw [List.map_map]
  apply List.map_congr_left
  intro q _
  show (if q.1 = p then (p, o) else q).1 = q.1
  split
  · next h => exact h.symm
  · rfl
section
variable {K : PySem.W.Frag} {O O1 O2 : Own} {H H1 H2 : Hp} {p : Addr} {o : OO} {ho : HO}
theorem Stp.own (ok : OwnOk K O H) (hp : H p = none) (is : ObjIs K (Py.vis ((p, o) :: O) (upd H p ho)) (upd H p ho) p o) : Stp K O H ((p, o) :: O) (upd H p ho) := by
  have k : ∀ a o', H a = some o' → upd H p ho a = some o' := fun a o' e => by rw [upd_ne (ne_of_none e hp)]; exact e
  refine ⟨fun a o' _ e => k a o' e, fun a z => ?_, fun a e => ?_, ?_, fun q hq => ?_⟩
  · rcases List.mem_cons.mp z with z | z
    · rw [show a = p from z]
      exact .inr hp
    · exact .inl z
  · by_cases ha : a = p
    · rw [ha]
      exact hp
    · rw [upd_ne ha] at e
      exact e
  · show (p :: O.map (·.1)).Nodup
    exact List.nodup_cons.mpr ⟨ok.fresh hp, ok.nd⟩
  · rcases List.mem_cons.mp hq with rfl | hq
    · exact is
    · obtain ⟨u, e⟩ := (ok.is q hq).some
      refine (ok.is q hq).sub (fun a o' z => ?_) (by rw [upd_ne (ne_of_none e hp)]) (fun dx z => k _ _ z)
      obtain ⟨z1, z2⟩ := vis_some z
      refine vis_of (fun z => ?_) (k _ _ z2)
      rcases List.mem_cons.mp z with z | z
      · rw [show a = p from z, hp] at z2
        cases z2
      · exact z1 z
theorem vis_put (hp : p ∈ O.map (·.1)) : vis (setO O p o) (upd H p ho) = vis O H := by
  funext a
  unfold vis
  rw [setO_keys]
  by_cases ha : a ∈ O.map (·.1)
  · rw [if_pos ha, if_pos ha]
  · rw [if_neg ha, if_neg ha, upd_ne (fun e => ha (by rw [e]; exact hp))]
theorem Stp.put (ok : OwnOk K O H) (hp : p ∈ O.map (·.1)) (nw : ∀ x, H p ≠ some (.own x)) (is : ObjIs K (Py.vis O H) (upd H p ho) p o) : Stp K O H (setO O p o) (upd H p ho) := by
  refine ⟨fun a o' n e => by rw [upd_ne (fun z => n (by rw [z]; exact hp))]; exact e, fun a z => by rw [setO_keys] at z; exact .inl z, fun a e => ?_, by rw [setO_keys]; exact ok.nd, fun q hq => ?_⟩
  · by_cases ha : a = p
    · subst ha
      rw [upd_same] at e
      cases e
    · rw [upd_ne ha] at e
      exact e
  · rw [vis_put hp]
    obtain ⟨q0, hq0, e⟩ := List.mem_map.mp (show q ∈ O.map _ from hq)
    by_cases hk : q0.1 = p
    · rw [if_pos hk] at e
      subst e
      exact is
    · rw [if_neg hk] at e
      subst e
      refine (ok.is q0 hq0).sub (Sub.refl _) (upd_ne hk) fun dx z => ?_
      rw [upd_ne (fun e => nw q0.1 (by rw [← e]; exact z))]
      exact z
theorem Stp.pop (ok : OwnOk K ((p, o) :: O) H) : Stp K ((p, o) :: O) H O H := by
  refine ⟨fun _ _ _ e => e, fun a z => .inl (List.mem_cons_of_mem _ z), fun _ e => e, (List.nodup_cons.mp ok.nd).2, fun q hq => ?_⟩
  refine (ok.is q (List.mem_cons_of_mem _ hq)).sub (fun a o' z => ?_) rfl (fun _ z => z)
  obtain ⟨z1, z2⟩ := vis_some z
  exact vis_of (fun z => z1 (List.mem_cons_of_mem _ z)) z2
theorem OwnOk.popL {ds : List PyData} (ok : OwnOk K ((p, .lst ds) :: O) H) : SVr K (vis O H) (.ref p) (vL ds) := by
  obtain ⟨vs, h1, h2⟩ := ok.is (p, .lst ds) List.mem_cons_self
  exact .lst (vis_of (List.nodup_cons.mp ok.nd).1 h1) (dpAll_sub (Stp.pop ok).vis _ _ h2)
theorem setO_head {o' : OO} (h : p ∉ O.map (·.1)) : setO ((p, o) :: O) p o' = (p, o') :: O := by
  unfold setO
  rw [List.map_cons, if_pos rfl]
  congr 1
  conv => rhs; rw [← List.map_id O]
  apply List.map_congr_left
  intro q hq
  have : q.1 ≠ p := fun e => h (e ▸ List.mem_map_of_mem hq)
  rw [if_neg this]
  rfl
/-- any own object let go -/
theorem own_eq {r q : Addr × OO} : ∀ {O : Own}, (O.map (·.1)).Nodup → r ∈ O → q ∈ O → r.1 = q.1 → r = q
  | [], _, h, _, _ => by cases h
  | x :: O, hn, h1, h2, e => by
    obtain ⟨n1, n2⟩ := List.nodup_cons.mp hn
    rcases List.mem_cons.mp h1 with a | a
    · rcases List.mem_cons.mp h2 with b | b
      · rw [a, b]
      · exact absurd (show x.1 ∈ O.map (·.1) by rw [← a, e]; exact List.mem_map_of_mem b) n1
    · rcases List.mem_cons.mp h2 with b | b
      · exact absurd (show x.1 ∈ O.map (·.1) by rw [← b, ← e]; exact List.mem_map_of_mem a) n1
      · exact own_eq n2 a b e
def dropO (O : Own) (p : Addr) : Own := O.filter fun q => !(q.1 == p)
theorem dropO_mem {q : Addr × OO} : q ∈ dropO O p ↔ q ∈ O ∧ q.1 ≠ p := by
  unfold dropO
  rw [List.mem_filter]
  simp
theorem dropO_keys {a : Addr} : a ∈ (dropO O p).map (·.1) ↔ a ∈ O.map (·.1) ∧ a ≠ p := by
  constructor
  · intro h
    obtain ⟨q, hq, rfl⟩ := List.mem_map.mp h
    obtain ⟨h1, h2⟩ := dropO_mem.mp hq
    exact ⟨List.mem_map_of_mem h1, h2⟩
  · rintro ⟨h, n⟩
    obtain ⟨q, hq, rfl⟩ := List.mem_map.mp h
    exact List.mem_map_of_mem (dropO_mem.mpr ⟨hq, n⟩)
theorem Stp.drop (ok : OwnOk K O H) (p : Addr) : Stp K O H (dropO O p) H := by
  refine ⟨fun _ _ _ e => e, fun a z => .inl (dropO_keys.mp z).1, fun _ e => e, ?_, fun q hq => ?_⟩
  · exact ok.nd.sublist (List.filter_sublist.map _)
  · refine (ok.is q (dropO_mem.mp hq).1).sub (fun a o' z => ?_) rfl (fun _ z => z)
    obtain ⟨z1, z2⟩ := vis_some z
    exact vis_of (fun z => z1 (dropO_keys.mp z).1) z2
theorem OwnOk.dropL {ds : List PyData} (ok : OwnOk K O H) (h : (p, .lst ds) ∈ O) : SVr K (vis (dropO O p) H) (.ref p) (vL ds) := by
  obtain ⟨vs, h1, h2⟩ := ok.is _ h
  exact .lst (vis_of (fun z => (dropO_keys.mp z).2 rfl) h1) (dpAll_sub (Stp.drop ok p).vis _ _ h2)
end

/-! ### targets -/
def WG (X : Cx) (tg : Expr) : TG := fun v σ H Q => ∀ pins s u, Inv X pins σ H s → RelV v u → wpAny (model X.prog X.w) X.A (assign tg X.env u) (fun _ s' => ∃ σ' H', Inv X pins σ' H' s' ∧ Q σ' H') X.xe s
theorem WG.pg {X : Cx} {tg : Expr} : PG X tg (WG X tg) := ⟨fun pins s _ _ v u _ I r h => h pins s u I r⟩
theorem wg_of {X : Cx} {tg : Expr} {t : TG} {v : V} {σ : L2.St} {H : Hp} {Q : L2.St → Hp → Prop} (p : PG X tg t) (h : t v σ H Q) : WG X tg v σ H Q := fun pins s u I r => p.run pins s σ H v u Q I r h
def WGs (X : Cx) (ts : List Expr) : TGs := fun vs σ H Q => ∀ pins s us, Inv X pins σ H s → Vals vs us → wpAny (model X.prog X.w) X.A (assignInOrder ((assignEach ts X.env).map (·.2)) us) (fun _ s' => ∃ σ' H', Inv X pins σ' H' s' ∧ Q σ' H') X.xe s
theorem WGs.pgs {X : Cx} {ts : List Expr} : PGs X ts (WGs X ts) := ⟨fun pins s _ _ vs us _ I r h => h pins s us I r⟩
theorem wgs_of {X : Cx} {ts : List Expr} {t : TGs} {vs : List V} {σ : L2.St} {H : Hp} {Q : L2.St → Hp → Prop} (p : PGs X ts t) (h : t vs σ H Q) : WGs X ts vs σ H Q := fun pins s us I r => p.run pins s σ H vs us Q I r h
/-- σ' is σ but at ixs -/
def But (ixs : List Nat) (σ σ' : L2.St) : Prop := σ'.length = σ.length ∧ ∀ j : Nat, j ∉ ixs → σ'[j]? = σ[j]?
def TGr (X : Cx) (tg : Expr) (ixs : List Nat) (r : SV) (E E' : En) : Prop := ∀ v σ O H, Rep X.K E O σ H → SVr X.K (vis O H) v r → ∀ Q : L2.St → Hp → Prop, (∀ σ', Rep X.K E' O σ' H → But ixs σ σ' → Q σ' H) → WG X tg v σ H Q
def TGrs (X : Cx) (ts : List Expr) (ixs : List Nat) (ds : List PyData) (E E' : En) : Prop := ∀ vs σ O H, Rep X.K E O σ H → DqAll (vis O H) vs ds → ∀ Q : L2.St → Hp → Prop, (∀ σ', Rep X.K E' O σ' H → But ixs σ σ' → Q σ' H) → WGs X ts vs σ H Q
section
variable {X : Cx} {E E' E'' : En} {pos : Pos} {r : SV}
theorem But.refl (ixs : List Nat) (σ : L2.St) : But ixs σ σ := ⟨rfl, fun _ _ => rfl⟩
theorem But.trans {ixs jxs : List Nat} {σ σ' σ'' : L2.St} (a : But ixs σ σ') (b : But jxs σ' σ'') : But (ixs ++ jxs) σ σ'' := ⟨b.1.trans a.1, fun j h => (b.2 j fun z => h (List.mem_append_right _ z)).trans (a.2 j fun z => h (List.mem_append_left _ z))⟩
theorem But.set (i : Nat) (σ : L2.St) (v : Option V) : But [i] σ (σ.set i v) := ⟨List.length_set, fun j h => List.getElem?_set_ne (fun e => h (by simp [e]))⟩
theorem tg_name (i : Nat) {x : Str} (hN : X.N.Nodup) (hi : X.N[i]? = some x := by rfl) (hx : Loc X.env.scope x := by first | exact Or.inl rfl | exact Or.inr rfl) (hf : X.fn x = true ∨ X.env.scope.names.lookup x = some .local := by first | exact .inl rfl | exact .inr rfl | assumption) : TGr X (.Name x pos) [i] r E (E.set i (some r)) :=
  fun v σ O H R z Q q => wg_of (pg_name hN hi hx hf) (q _ (R.set i z) (.set i σ _))
theorem tgs_nil : TGrs X [] [] [] E E := fun vs σ O H R z Q q => wgs_of pgs_nil (by
  cases z
  exact ⟨rfl, q σ R (.refl _ _)⟩)
theorem tgs_cons {e : Expr} {es : List Expr} {ixs jxs : List Nat} {d : PyData} {ds : List PyData} (h1 : TGr X e ixs (.d d) E E') (h2 : TGrs X es jxs ds E' E'')
    (hs : (assignEach (e :: es) X.env).map (·.2) = assign e X.env :: (assignEach es X.env).map (·.2) := by rfl) : TGrs X (e :: es) (ixs ++ jxs) (d :: ds) E E'' := fun vs σ O H R z Q q => wgs_of (pgs_cons WG.pg WGs.pgs hs) (by
  cases z with
  | cons z zs =>
    refine ⟨_, _, rfl, h1 _ σ O H R z _ fun σ1 R1 b1 => ?_⟩
    exact h2 _ σ1 O H R1 zs _ fun σ2 R2 b2 => q σ2 R2 (b1.trans b2))
theorem tg_tup {es : List Expr} {k : Nat} {ixs : List Nat} {ds : List PyData} (hc : X.calm = true) (h : TGrs X es ixs ds E E')
    (hn : (assignEach es X.env).length = ds.length := by rfl) (hst : (assignEach es X.env).findIdx? (·.1) = none := by rfl) : TGr X (.Tuple es k pos) ixs (vT ds) E E' := fun v σ O H R z Q q => wg_of (pg_tup (n := ds.length) hc WGs.pgs hn hst) (by
  obtain ⟨a, vs, e1, h1, h2⟩ := tup_of z
  exact ⟨a, vs, e1, .inl (rd_sub (vis_sub _ _) h1), dpa_len h2, h vs σ O H R h2 Q q⟩)
theorem TGr.to {tg : Expr} {ixs : List Nat} (h : TGr X tg ixs r E E') (e : E' = E'') : TGr X tg ixs r E E'' := by
  subst e
  exact h
end

/-! ### statements -/
structure PD where
  nx : En → Own → Prop
  rt : SV → Own → Prop
  bk : En → Own → Prop := fun _ _ => False
  ct : En → Own → Prop := fun _ _ => False
structure Ref (K : PySem.W.Frag) (O : Own) (H : Hp) (D : PD) (D' : Ends) : Prop where
  nx : ∀ σ' H' E' O', D.nx E' O' → Stp K O H O' H' → Rep K E' O' σ' H' → D'.nx σ' H'
  rt : ∀ v H' r O', D.rt r O' → Stp K O H O' H' → SVr K (vis O' H') v r → D'.rt v H'
  bk : ∀ σ' H' E' O', D.bk E' O' → Stp K O H O' H' → Rep K E' O' σ' H' → D'.bk σ' H'
  ct : ∀ σ' H' E' O', D.ct E' O' → Stp K O H O' H' → Rep K E' O' σ' H' → D'.ct σ' H'
theorem Ref.step {K : PySem.W.Frag} {O O1 : Own} {H H1 : Hp} {D : PD} {D' : Ends} (r : Ref K O H D D') (s : Stp K O H O1 H1) : Ref K O1 H1 D D' :=
  ⟨fun σ' H' E' O' h q => r.nx σ' H' E' O' h (s.trans q), fun v H' r' O' h q => r.rt v H' r' O' h (s.trans q), fun σ' H' E' O' h q => r.bk σ' H' E' O' h (s.trans q), fun σ' H' E' O' h q => r.ct σ' H' E' O' h (s.trans q)⟩
def SG (X : Cx) (st : Stmt) (E : En) (O : Own) (D : PD) : Prop := ∀ σ H, Rep X.K E O σ H → ∀ D', Ref X.K O H D D' → WS X st D' σ H
def SB (X : Cx) (sts : List Stmt) (E : En) (O : Own) (D : PD) : Prop := ∀ σ H, Rep X.K E O σ H → ∀ D', Ref X.K O H D D' → WSs X sts D' σ H
section
variable {X : Cx} {a b c e : Expr} {st : Stmt} {sts as bs : List Stmt} {E : En} {O : Own} {D : PD} {pos : Pos}
theorem sb_nil (h : D.nx E O) : SB X [] E O D := fun σ H R D' r => wss_of pss_nil (r.nx σ H E O h (.refl R.own) R)
theorem sb_cons (h : SG X st E O { D with nx := fun E' O' => SB X sts E' O' D }) : SB X (st :: sts) E O D := fun σ H R D' r => wss_of (pss_cons WS.ps WSs.pss)
  (h σ H R { D' with nx := WSs X sts D' } ⟨fun σ' H' E' O' hb s R' => hb σ' H' R' D' (r.step s), r.rt, r.bk, r.ct⟩)
theorem s_setG (i : Nat) {x : Str} {pos' : Pos} {Φ : SV → Own → Prop} (hN : X.N.Nodup) (he : EG X e E O Φ) (h : ∀ r O', Φ r O' → D.nx (E.set i (some r)) O') (hi : X.N[i]? = some x := by rfl) (hx : Loc X.env.scope x := by first | exact Or.inl rfl | exact Or.inr rfl)
    (hs : swapsWith e (some (.Name x pos')) pos.line X.env = pure false := by rfl) (hf : X.fn x = true ∨ X.env.scope.names.lookup x = some .local := by first | exact .inl rfl | exact .inr rfl | assumption) : SG X (.Assign [.Name x pos'] e pos) E O D := fun σ H R D' r => ws_of (ps_set hN hi hx WE.pe hs hf) (by
  refine he σ H R _ fun v H1 r1 O1 f s z => ?_
  exact r.nx _ H1 _ O1 (h r1 O1 f) s ((R.step s).set i z))
theorem s_set (i : Nat) {x : Str} {pos' : Pos} {r : SV} (hN : X.N.Nodup) (he : EX X e E O r) (h : D.nx (E.set i (some r)) O) (hi : X.N[i]? = some x := by rfl) (hx : Loc X.env.scope x := by first | exact Or.inl rfl | exact Or.inr rfl)
    (hs : swapsWith e (some (.Name x pos')) pos.line X.env = pure false := by rfl) (hf : X.fn x = true ∨ X.env.scope.names.lookup x = some .local := by first | exact .inl rfl | exact .inr rfl | assumption) : SG X (.Assign [.Name x pos'] e pos) E O D :=
  s_setG i hN he (fun r' O' ⟨e1, e2⟩ => by subst e1; subst e2; exact h) hi hx hs hf
/-- name = [..] new and one's own -/
theorem s_asg {tg : Expr} {ixs : List Nat} {E' : En} {r : SV} (he : EX X e E O r) (hg : TGr X tg ixs r E E') (h : D.nx E' O) (hs : swapsWithSole [tg] e pos.line X.env = pure false := by rfl) (hw : swappedStores [tg] e X.env = pure none := by rfl)
    (h1 : (assignEach [tg] X.env).map (·.2) = [assign tg X.env] := by rfl) : SG X (.Assign [tg] e pos) E O D := fun σ H R D' rf => ws_of (ps_asg WE.pe WG.pg hs hw h1) (by
  refine he σ H R _ fun v H1 r1 O1 ⟨e1, e2⟩ s z => ?_
  subst e1; subst e2
  exact hg v σ _ H1 (R.step s) z _ fun σ' R' _ => rf.nx σ' H1 _ _ h s R')
theorem s_par (i j : Nat) {x y : Str} {px py pt pt2 : Pos} {kt k2 : Nat} {r1 r2 : SV} (hc : X.calm = true) (hN : X.N.Nodup) (ha : EX X a E O r1) (hb : EX X b E O r2) (h : D.nx ((E.set i (some r1)).set j (some r2)) O)
    (q : PS X (.Assign [.Tuple [.Name x px, .Name y py] kt pt] (.Tuple [a, b] k2 pt2) pos) (tPar i j (WA X [a, b]))) (hs : starEach [a, b] X.env = (false, eval a X.env) :: starEach [b] X.env := by rfl) (hs2 : starEach [b] X.env = (false, eval b X.env) :: starEach [] X.env := by rfl) :
    SG X (.Assign [.Tuple [.Name x px, .Name y py] kt pt] (.Tuple [a, b] k2 pt2) pos) E O D := fun σ H R D' rf => ws_of q (by
  refine (a_cons ha (a_cons hb a_nil hs2) hs : EA X [a, b] E O [r1, r2]) σ H R _ fun vs H1 rs O1 ⟨e1, e2⟩ s z => ?_
  subst e1; subst e2
  cases z with
  | cons z1 z =>
    cases z with
    | cons z2 z =>
      cases z
      exact ⟨_, _, rfl, rf.nx _ H1 _ _ h s (((R.step s).set i z1).set j z2)⟩)
theorem s_retG {Φ : SV → Own → Prop} (he : EG X e E O Φ) (h : ∀ r O', Φ r O' → D.rt r O') : SG X (.Return (some e) pos) E O D := fun σ H R D' r => ws_of (ps_ret WE.pe) (by
  refine he σ H R _ fun v H1 r1 O1 f s z => ?_
  exact r.rt v H1 r1 O1 (h r1 O1 f) s z)
theorem s_ret {r : SV} (he : EX X e E O r) (h : D.rt r O) : SG X (.Return (some e) pos) E O D := s_retG he (fun r' O' ⟨e1, e2⟩ => by subst e1; subst e2; exact h)
theorem s_retN (h : D.rt vN O) : SG X (.Return none pos) E O D := fun σ H R D' r => ws_of ps_retN (r.rt .non H vN O h (.refl R.own) .non)
theorem s_exprG {Φ : SV → Own → Prop} (he : EG X e E O Φ) (h : ∀ r O', Φ r O' → D.nx E O') (hs : swapsWith e none pos.line X.env = pure false := by rfl) : SG X (.Expr e pos) E O D := fun σ H R D' r => ws_of (ps_expr WE.pe hs) (by
  refine he σ H R _ fun v H1 r1 O1 f s z => ?_
  exact r.nx σ H1 E O1 (h r1 O1 f) s (R.step s))
theorem s_ifG {Φ : Bool → Own → Prop} (hc : TQ X c E O Φ) (h : ∀ k O', Φ k O' → (k = true → SB X as E O' D) ∧ (k = false → SB X bs E O' D)) : SG X (.If c as bs pos) E O D := fun σ H R D' r => ws_of (ps_if WT.pt WSs.pss WSs.pss) (by
  refine hc σ H R _ fun k H1 O1 f s => ?_
  cases k with
  | true =>
    rw [if_pos rfl]
    exact (h true O1 f).1 rfl σ H1 (R.step s) D' (r.step s)
  | false =>
    rw [if_neg Bool.false_ne_true]
    exact (h false O1 f).2 rfl σ H1 (R.step s) D' (r.step s))
theorem s_if {k : Bool} (hc : ET X c E O k) (h1 : k = true → SB X as E O D) (h2 : k = false → SB X bs E O D) : SG X (.If c as bs pos) E O D := s_ifG hc fun k' O' ⟨e1, e2⟩ => by
  subst e1; subst e2
  exact ⟨h1, h2⟩
theorem s_pass (h : D.nx E O) : SG X (.Pass pos) E O D := fun σ H R D' r => ws_of ps_pass (r.nx σ H E O h (.refl R.own) R)
theorem s_break (h : D.bk E O) : SG X (.Break pos) E O D := fun σ H R D' r => ws_of ps_break (r.bk σ H E O h (.refl R.own) R)
theorem s_cont (h : D.ct E O) : SG X (.Continue pos) E O D := fun σ H R D' r => ws_of ps_continue (r.ct σ H E O h (.refl R.own) R)
theorem s_while {body : List Stmt} (W : Nat → En → Own → Prop) (m0 : Nat) (h0 : W m0 E O)
    (hs : ∀ m E' O', W m E' O' → ∃ k, ET X c E' O' k ∧ (k = true → SB X body E' O' ⟨fun E2 O2 => ∃ m', m' < m ∧ W m' E2 O2, D.rt, D.nx, fun E2 O2 => ∃ m', m' < m ∧ W m' E2 O2⟩) ∧ (k = false → D.nx E' O'))
    (hp : PassesOwn (model X.prog X.w) X.A X.env X.xe := by exact PassesOwn.never) : SG X (.While c body [] pos) E O D := fun σ H R D' r => ws_of (ps_while hp WT.pt WSs.pss) (by
  refine ⟨fun m σ' H' => ∃ E' O', W m E' O' ∧ Stp X.K O H O' H' ∧ Rep X.K E' O' σ' H', ⟨m0, E, O, h0, .refl R.own, R⟩, ?_⟩
  rintro m σ' H' ⟨E', O', w, s, R'⟩
  obtain ⟨k, hc, ht, hf⟩ := hs m E' O' w
  refine hc σ' H' R' _ fun k' H1 O1 ⟨e1, e2⟩ s1 => ?_
  subst e1; subst e2
  cases k' with
  | true =>
    rw [if_pos rfl]
    refine ⟨fun σ2 H2 => ∃ m', m' < m ∧ ∃ E2 O2, W m' E2 O2 ∧ Stp X.K O H O2 H2 ∧ Rep X.K E2 O2 σ2 H2, fun σ2 H2 z => z, ?_⟩
    have s2 := s.trans s1
    refine ht rfl σ' H1 (R'.step s1) _ ⟨?_, ?_, ?_, ?_⟩
    · rintro σ2 H2 E2 O2 ⟨m', hm, w2⟩ s3 R2
      exact ⟨m', hm, E2, O2, w2, s2.trans s3, R2⟩
    · intro v H2 r2 O2 z s3 z2
      exact r.rt v H2 r2 O2 z (s2.trans s3) z2
    · intro σ2 H2 E2 O2 z s3 R2
      exact r.nx σ2 H2 E2 O2 z (s2.trans s3) R2
    · rintro σ2 H2 E2 O2 ⟨m', hm, w2⟩ s3 R2
      exact ⟨m', hm, E2, O2, w2, s2.trans s3, R2⟩
  | false =>
    rw [if_neg Bool.false_ne_true]
    exact r.nx σ' H1 _ _ (hf rfl) (s.trans s1) (R'.step s1))
end

/-! ### what is walked -/
structure Yields {α : Type} (K : PySem.W.Frag) (J : It) (O : Own) (H0 : Hp) (xs : List α) (g : α → SV) : Prop where
  go : ∀ i O' H, Stp K O H0 O' H → i < xs.length → J.go i H
  yld : ∀ i O' H x H', Stp K O H0 O' H → (hi : i < xs.length) → J.yld i H x H' → Stp K O' H O' H' ∧ SVr K (vis O' H') x (g xs[i])
  stop : ∀ O' H, Stp K O H0 O' H → J.stop xs.length H
def IT {α : Type} (X : Cx) (tg iter : Expr) (E : En) (O : Own) (xs : List α) (g : α → SV) : Prop :=
  ∃ wi, PI X tg iter wi ∧ ∀ σ H, Rep X.K E O σ H → ∀ R : It → Hp → Prop, (∀ J H', Stp X.K O H O H' → Yields X.K J O H' xs g → R J H') → wi σ H R
section
variable {X : Cx} {tg iter a b e : Expr} {E : En} {O : Own} {pos : Pos} {α : Type}
theorem it_list {ds : List PyData} (h : EX X iter E O (vL ds)) : IT X tg iter E O ds SV.d := ⟨_, pi_list WE.pe, fun σ H R Q q => by
  refine h σ H R _ fun v H1 r O1 ⟨e1, e2⟩ s z => ?_
  subst e1; subst e2
  obtain ⟨p, vs, rfl, h1, h2⟩ := lst_of z
  have hl := dpa_len h2
  refine ⟨p, rfl, ⟨vs, SqL.of (vis_sub _ _ _ _ h1)⟩, q _ H1 s ⟨fun i O' H' s1 hi => ?_, fun i O' H' x H2 s1 hi y => ?_, fun O' H' s1 => ?_⟩⟩
  · exact ⟨vs, vs[i]'(by omega), SqL.of (vis_sub _ _ _ _ (s1.vis _ _ h1)), List.getElem?_eq_getElem _⟩
  · obtain ⟨rfl, y⟩ := y
    have hv := y vs (SqL.of (vis_sub _ _ _ _ (s1.vis _ _ h1)))
    obtain ⟨d, h3, h4⟩ := dpa_atV h2 hv
    rw [List.getElem?_eq_getElem hi] at h3
    cases h3
    exact ⟨.refl s1.ok, dp_sub s1.vis _ _ h4⟩
  · exact ⟨vs, SqL.of (vis_sub _ _ _ _ (s1.vis _ _ h1)), by omega⟩⟩
theorem it_tup {ds : List PyData} (h : EX X iter E O (vT ds)) : IT X tg iter E O ds SV.d := ⟨_, pi_tup WE.pe, fun σ H R Q q => by
  refine h σ H R _ fun v H1 r O1 ⟨e1, e2⟩ s z => ?_
  subst e1; subst e2
  obtain ⟨p, vs, rfl, h1, h2⟩ := tup_of z
  have hl := dpa_len h2
  refine ⟨p, rfl, ⟨vs, .inl (rd_sub (vis_sub _ _) h1)⟩, q _ H1 s ⟨fun i O' H' s1 hi => ?_, fun i O' H' x H2 s1 hi y => ?_, fun O' H' s1 => ?_⟩⟩
  · exact ⟨vs, vs[i]'(by omega), Or.inl (rd_sub (vis_sub _ _) (rd_sub s1.vis h1)), List.getElem?_eq_getElem _⟩
  · obtain ⟨rfl, y⟩ := y
    have hv := y vs (Or.inl (rd_sub (vis_sub _ _) (rd_sub s1.vis h1)))
    obtain ⟨d, h3, h4⟩ := dpa_atV h2 hv
    rw [List.getElem?_eq_getElem hi] at h3
    cases h3
    exact ⟨.refl s1.ok, dp_sub s1.vis _ _ h4⟩
  · exact ⟨vs, Or.inl (rd_sub (vis_sub _ _) (rd_sub s1.vis h1)), by omega⟩⟩
theorem IT.as {β : Type} {xs : List α} {g : α → SV} {ys : List β} {k : β → SV} (h : IT X tg iter E O xs g) (e : xs.map g = ys.map k) : IT X tg iter E O ys k := by
  obtain ⟨wi, p, q⟩ := h
  refine ⟨wi, p, fun σ H R Q z => q σ H R Q fun J H' s y => z J H' s ?_⟩
  have hl : xs.length = ys.length := by
    have := congrArg List.length e
    simpa using this
  refine ⟨fun i O' H s hi => y.go i O' H s (by omega), fun i O' H x H' s hi w => ?_, fun O' H s => hl ▸ y.stop O' H s⟩
  obtain ⟨w1, w2⟩ := y.yld i O' H x H' s (by omega) w
  refine ⟨w1, ?_⟩
  have e1 : g (xs[i]'(by omega)) = k ys[i] := by
    have h1 : (xs.map g)[i]? = some (g (xs[i]'(by omega))) := by rw [List.getElem?_map, List.getElem?_eq_getElem (by omega)]; rfl
    have h2 : (ys.map k)[i]? = some (k ys[i]) := by rw [List.getElem?_map, List.getElem?_eq_getElem hi]; rfl
    rw [e, h2] at h1
    exact (Option.some.inj h1).symm
  rw [← e1]
  exact w2
theorem yields_range {K : PySem.W.Frag} {H : Hp} {lo : Int} {n : Nat} : Yields K (Itr lo n) O H (List.range n) (fun i => vI (lo + (i : Int))) :=
  ⟨fun i _ _ _ hi => by show i < n; simpa using hi, fun i O' H x H' s hi y => by
    obtain ⟨rfl, rfl⟩ := y
    refine ⟨.refl s.ok, ?_⟩
    rw [List.getElem_range]
    exact .int _, fun _ _ _ => by show n ≤ (List.range n).length; simp⟩
theorem it_range1 {n : Int} {p : Pos} (hg : Gl X "range") (hm : X.mg "range" = none) (h : EX X a E O (vI n)) (hb : -(2 ^ 62) ≤ n ∧ n < 2 ^ 62) (hs : starEach [a] X.env = [(false, eval a X.env)] := by rfl) : IT X tg (.Call (.Name "range" p) [a] [] pos) E O (List.range n.toNat) (fun i => vI (i : Int)) :=
  IT.as (xs := List.range n.toNat) (g := fun i => vI (0 + (i : Int))) ⟨_, pi_range1 hg hm WA.pa hs, fun σ H R Q q => by
    refine (a_cons h a_nil hs : EA X [a] E O [vI n]) σ H R _ fun vs H1 rs O1 ⟨e1, e2⟩ s z => ?_
    subst e1; subst e2
    cases z with
    | cons z1 z =>
      cases z
      exact ⟨n, by rw [int_of z1], hb.1, hb.2, q _ H1 s yields_range⟩⟩ (by simp)
theorem it_range2 {lo n : Int} {p : Pos} (hg : Gl X "range") (hm : X.mg "range" = none) (h1 : EX X a E O (vI lo)) (h2 : EX X b E O (vI n)) (hb : (-(2 ^ 62) ≤ lo ∧ lo < 2 ^ 62) ∧ -(2 ^ 62) ≤ n ∧ n < 2 ^ 62)
    (hs : starEach [a, b] X.env = [(false, eval a X.env), (false, eval b X.env)] := by rfl) (hs2 : starEach [b] X.env = [(false, eval b X.env)] := by rfl) : IT X tg (.Call (.Name "range" p) [a, b] [] pos) E O (List.range (n - lo).toNat) (fun i => vI (lo + (i : Int))) :=
  ⟨_, pi_range2 hg hm WA.pa hs hs2, fun σ H R Q q => by
    refine (a_cons h1 (a_cons h2 a_nil hs2) (by rw [hs, hs2]) : EA X [a, b] E O [vI lo, vI n]) σ H R _ fun vs H1 rs O1 ⟨e1, e2⟩ s z => ?_
    subst e1; subst e2
    cases z with
    | cons z1 z =>
      cases z with
      | cons z2 z =>
        cases z
        exact ⟨lo, n, by rw [int_of z1, int_of z2], ⟨hb.1.1, hb.1.2, hb.2.1, hb.2.2⟩, q _ H1 s yields_range⟩⟩
theorem s_for {body : List Stmt} {D : PD} {xs : List α} {g : α → SV} (hi : IT X tg iter E O xs g) (Pv : Nat → En → Own → Prop) (h0 : Pv 0 E O)
    (hs : ∀ (i : Nat) (E' : En) (O' : Own) (hi : i < xs.length), Pv i E' O' → ∃ E2 ixs, TGr X tg ixs (g xs[i]) E' E2 ∧ SB X body E2 O' ⟨Pv (i + 1), D.rt, D.nx, Pv (i + 1)⟩) (hd : ∀ E' O', Pv xs.length E' O' → D.nx E' O')
    (hc : X.calm = true := by rfl) (hp : PassesOwn (model X.prog X.w) X.A X.env X.xe := by exact PassesOwn.never) (hf : ∀ x, foldedSetIterable iter X.env x = pure x := by intro _; rfl) : SG X (.For tg iter body [] pos) E O D := fun σ H R D' r => by
  obtain ⟨wi, p, q⟩ := hi
  refine ws_of (ps_for hp hc p WG.pg WSs.pss hf) ?_
  refine q σ H R _ fun J H1 s1 y => ?_
  refine ⟨fun i m σ' H' => m = xs.length - i ∧ i ≤ xs.length ∧ ∃ E' O', Pv i E' O' ∧ Stp X.K O H1 O' H' ∧ Rep X.K E' O' σ' H', ⟨xs.length, by simp, Nat.zero_le _, E, O, h0, .refl s1.ok, R.step s1⟩, ?_⟩
  rintro i m σ' H' ⟨rfl, hi, E', O', pv, s, R'⟩
  by_cases hlt : i < xs.length
  · refine .inr ⟨y.go i O' H' s hlt, fun σ2 H2 => ∃ E2 O2, Pv (i + 1) E2 O2 ∧ Stp X.K O H1 O2 H2 ∧ Rep X.K E2 O2 σ2 H2, fun σ2 H2 ⟨E2, O2, z1, z2, z3⟩ => ⟨xs.length - (i + 1), by omega, rfl, hlt, E2, O2, z1, z2, z3⟩, fun x H2 yy => ?_⟩
    obtain ⟨s2, z⟩ := y.yld i O' H' x H2 s hlt yy
    obtain ⟨E2, ixs, ht, hb⟩ := hs i E' O' hlt pv
    refine ht x σ' O' H2 (R'.step s2) z _ fun σ2 R2 _ => ?_
    have s3 := s.trans s2
    refine hb σ2 H2 R2 _ ⟨?_, ?_, ?_, ?_⟩
    · intro σ3 H3 E3 O3 z3 s4 R3
      exact ⟨E3, O3, z3, s3.trans s4, R3⟩
    · intro v H3 r3 O3 z3 s4 z4
      exact r.rt v H3 r3 O3 z3 ((s1.trans s3).trans s4) z4
    · intro σ3 H3 E3 O3 z3 s4 R3
      exact r.nx σ3 H3 E3 O3 z3 ((s1.trans s3).trans s4) R3
    · intro σ3 H3 E3 O3 z3 s4 R3
      exact ⟨E3, O3, z3, s3.trans s4, R3⟩
  · have e : i = xs.length := by omega
    subst e
    exact .inl ⟨y.stop O' H' s, r.nx σ' H' E' O' (hd E' O' pv) (s1.trans s) R'⟩
end

/-! ### comprehensions -/
def wipeE (E : En) : List Nat → En
  | [] => E
  | v :: vs => (wipeE E vs).set v none
theorem wipe_but {σ σ' : L2.St} : ∀ {vs ixs : List Nat}, But ixs σ σ' → (∀ j ∈ ixs, j ∈ vs) → wipe σ' vs = wipe σ vs := fun {vs ixs} b h => by
  apply List.ext_getElem?
  intro j
  by_cases hj : j ∈ vs
  · have key : ∀ (s : L2.St) (vs : List Nat), j ∈ vs → (wipe s vs)[j]? = if j < s.length then some none else none := by
      intro s vs
      induction vs with
      | nil => intro h; cases h
      | cons v r ih =>
        intro h
        unfold wipe
        by_cases e : v = j
        · subst e
          by_cases hl : v < s.length
          · rw [List.getElem?_set_self (by rw [wipe_length]; exact hl), if_pos hl]
          · rw [List.getElem?_eq_none (by rw [List.length_set, wipe_length]; omega), if_neg hl]
        · rw [List.getElem?_set_ne e]
          exact ih ((List.mem_cons.mp h).resolve_left fun z => e z.symm)
    rw [key σ' vs hj, key σ vs hj, b.1]
  · rw [wipe_out hj, wipe_out hj, b.2 j fun z => hj (h j z)]
theorem wipe_wipe (σ : L2.St) (vs : List Nat) : wipe (wipe σ vs) vs = wipe σ vs := by
  have h : But vs σ (wipe σ vs) := ⟨wipe_length σ vs, fun j hj => wipe_out hj⟩
  exact wipe_but h fun _ z => z
theorem wipeE_length (E : En) : ∀ vs : List Nat, (wipeE E vs).length = E.length
  | [] => rfl
  | v :: vs => by unfold wipeE; rw [List.length_set, wipeE_length E vs]
theorem rep_wipe {K : PySem.W.Frag} {E : En} {O : Own} {σ : L2.St} {H : Hp} (R : Rep K E O σ H) : ∀ vs : List Nat, Rep K (wipeE E vs) O (wipe σ vs) H
  | [] => R
  | v :: vs => by
    have R' := rep_wipe R vs
    refine ⟨by unfold wipeE wipe; rw [List.length_set, List.length_set]; exact R'.len, R'.own, fun i r e => ?_⟩
    unfold wipeE at e
    unfold wipe
    by_cases hv : v = i
    · subst hv
      by_cases hl : v < (wipeE E vs).length
      · rw [List.getElem?_set_self hl] at e
        cases e
      · rw [List.getElem?_eq_none (by rw [List.length_set]; omega)] at e
        cases e
    · rw [List.getElem?_set_ne hv] at e ⊢
      exact R'.sl i r e
section
variable {X : Cx} {elt tg iter c : Expr} {ifs : List Expr} {scope : Scope} {own : List (Str × Nat)} {E : En} {O : Own} {pos : Pos} {α : Type}
abbrev Blk (X : Cx) (scope : Scope) (P : Cx → Prop) : Prop := ∀ (s : Shared) (H : Hp) (C : Addr) (cl : List (Str × Addr)) (fp : List Addr), P (X.blk s H scope (compEnvC scope cl C X.env) fp)
def WTs (X : Cx) (ifs : List Expr) : TT := fun σ H Q => ∀ pins s, Inv X pins σ H s → wpAny (model X.prog X.w) X.A (forIn ifs true fun c r => if r = true then do let ok ← isTrue c X.env (eval c X.env); pure (ForInStep.yield ok) else pure (ForInStep.yield r)) (TP X pins σ Q) X.xe s
theorem WTs.pts : PTs X ifs (WTs X ifs) := ⟨fun pins s _ _ _ I h => h pins s I⟩
def TS' (X : Cx) (ifs : List Expr) (E : En) (O : Own) (b : Bool) : Prop := ∀ σ H, Rep X.K E O σ H → ∀ Q : Bool → Hp → Prop, (∀ H', Stp X.K O H O H' → Q b H') → WTs X ifs σ H Q
theorem ts_nil : TS' X [] E O true := fun σ H R Q q => fun pins s I => (pts_nil : PTs X [] tYes).run pins s σ H Q I (q H (.refl R.own))
theorem ts_one {b : Bool} (h : ET X c E O b) : TS' X [c] E O b := fun σ H R Q q => fun pins s I => (pts_one (WT.pt (X := X) (e := c))).run pins s σ H Q I (h σ H R Q fun b' H' O' ⟨e1, e2⟩ s => by
  subst e1; subst e2
  exact q H' s)
/-- the reading of a comprehension -/
theorem lc_core {xs : List α} {g : α → SV} {wi : TI} {vs : List Nat} (ixs : List Nat) (E2 : α → En) (p : α → Bool) (f : α → PyData) (hx : ∀ j ∈ ixs, j ∈ vs) (hlen : xs.length ≤ 100000)
    (hw : ∀ σ H, Rep X.K E O σ H → ∀ R : It → Hp → Prop, (∀ J H', Stp X.K O H O H' → Yields X.K J O H' xs g → R J H') → wi σ H R)
    (htg : ∀ x ∈ xs, Blk X scope fun X' => TGr X' tg ixs (g x) (wipeE E vs) (E2 x))
    (hif : ∀ x ∈ xs, ∀ O', (∀ q ∈ O, q ∈ O') → Blk X scope fun X' => TS' X' ifs (E2 x) O' (p x))
    (hel : ∀ x ∈ xs, p x = true → ∀ O', (∀ q ∈ O, q ∈ O') → Blk X scope fun X' => EX X' elt (E2 x) O' (.d (f x)))
    {σ : L2.St} {H : Hp} (R : Rep X.K E O σ H) {Q : VK} (q : Kont X.K O H (is1 (vL ((xs.filter p).map f)) O) Q) :
    tLc wi (fun v σ H' Q => Blk X scope fun X' => WG X' tg v σ H' Q) (fun σ H' Q => Blk X scope fun X' => WTs X' ifs σ H' Q) (fun σ H' Q => Blk X scope fun X' => WE X' elt σ H' Q) vs σ H Q := by
  refine hw σ H R _ fun J H1 s1 y => fun D hD => ?_
  have own1 : Stp X.K O H1 ((D, .lst []) :: O) (upd H1 D (.lst [])) := Stp.own s1.ok hD ⟨[], upd_same, .nil⟩
  refine ⟨fun i m H' => m = xs.length - i ∧ i ≤ xs.length ∧ Stp X.K O H1 ((D, .lst (((xs.take i).filter p).map f)) :: O) H', ⟨xs.length, by simp, Nat.zero_le _, own1⟩, ?_⟩
  rintro i m H' ⟨rfl, hi, s⟩
  by_cases hlt : i < xs.length
  · refine .inr ⟨y.go i _ H' s hlt, fun H2 => Stp X.K O H1 ((D, .lst (((xs.take (i + 1)).filter p).map f)) :: O) H2, fun H2 z => ⟨xs.length - (i + 1), by omega, rfl, hlt, z⟩, fun x H2 yy => ?_⟩
    obtain ⟨s2, z⟩ := y.yld i _ H' x H2 s hlt yy
    have R2 : Rep X.K (wipeE E vs) ((D, .lst (((xs.take i).filter p).map f)) :: O) (wipe σ vs) H2 := (rep_wipe R vs).step ((s1.trans s).trans s2)
    have hm : xs[i] ∈ xs := List.getElem_mem hlt
    have sub : ∀ q ∈ O, q ∈ ((D, OO.lst (((xs.take i).filter p).map f)) :: O) := fun _ z => List.mem_cons_of_mem _ z
    have tk : xs.take (i + 1) = xs.take i ++ [xs[i]] := by rw [List.take_add_one, List.getElem?_eq_getElem hlt]; rfl
    intro s0 H0 C cl fp
    refine htg _ hm s0 H0 C cl fp x (wipe σ vs) _ H2 R2 z _ fun σ3 R3 b3 => ⟨?_, ?_⟩
    · rw [wipe_but b3 hx, wipe_wipe]
    · intro s0 H0 C cl fp
      refine hif _ hm _ sub s0 H0 C cl fp σ3 H2 R3 _ fun H3 s3 => ?_
      have s23 := (s.trans s2).trans s3
      cases hp : p xs[i] with
      | true =>
        rw [if_pos rfl]
        intro s0 H0 C cl fp
        refine hel _ hm hp _ sub s0 H0 C cl fp σ3 H3 (R3.step s3) _ fun v H4 r4 O4 ⟨e1, e2⟩ s4 z4 => ?_
        subst e1; subst e2
        have s5 := s23.trans s4
        obtain ⟨acc, h1, h2⟩ := s5.ok.is (D, .lst (((xs.take i).filter p).map f)) List.mem_cons_self
        have hD' : D ∉ O.map (·.1) := (List.nodup_cons.mp s5.ok.nd).1
        refine ⟨acc, h1, ?_, ?_⟩
        · rw [dpa_len h2]
          have e1 := List.length_filter_le p (xs.take i)
          rw [List.length_take] at e1
          rw [List.length_map]
          exact Nat.lt_of_le_of_lt (show _ ≤ 100000 by omega) (by decide)
        · have s6 := Stp.put (o := .lst (((xs.take (i + 1)).filter p).map f)) (ho := .lst (acc ++ [v])) (p := D) s5.ok (by simp) (fun x e => by rw [h1] at e; cases e) ⟨acc ++ [v], upd_same, by
            rw [tk, List.filter_append, List.map_append]
            refine dpa_app h2 ?_
            rw [List.filter_cons, if_pos hp]
            exact .cons z4 .nil⟩
          rw [setO_head hD'] at s6
          exact s5.trans s6
      | false =>
        rw [if_neg Bool.false_ne_true]
        rw [tk, List.filter_append, List.filter_cons, if_neg (by rw [hp]; decide), List.filter_nil, List.append_nil]
        exact s23
  · have e : i = xs.length := by omega
    subst e
    refine .inl ⟨y.stop _ H' s, ?_⟩
    rw [List.take_length] at s
    exact q _ H' _ _ ⟨rfl, rfl⟩ ((s1.trans s).trans (Stp.pop s.ok)) s.ok.popL
/-- [elt for tg in iter if c] -/
theorem x_lc {xs : List α} {g : α → SV} (own : List (Str × Nat)) (ixs : List Nat) (E2 : α → En) (p : α → Bool) (f : α → PyData) (hN : X.N.Nodup) (hi : IT X tg iter E O xs g) (ok : BlkOk X.N X.env.scope scope own) (hlen : xs.length ≤ 100000)
    (htg : ∀ x ∈ xs, Blk X scope fun X' => TGr X' tg ixs (g x) (wipeE E (own.map (·.2))) (E2 x))
    (hif : ∀ x ∈ xs, ∀ O', (∀ q ∈ O, q ∈ O') → Blk X scope fun X' => ET X' c (E2 x) O' (p x))
    (hel : ∀ x ∈ xs, p x = true → ∀ O', (∀ q ∈ O, q ∈ O') → Blk X scope fun X' => EX X' elt (E2 x) O' (.d (f x)))
    (hx : ∀ j ∈ ixs, j ∈ own.map (·.2) := by decide) (hc : X.calm = true := by rfl) (hs : ∀ x, foldedSetIterable iter X.env x = pure x := by intro _; rfl) : EX X (.ListComp elt [⟨tg, iter, [c], 0⟩] scope pos) E O (vL ((xs.filter p).map f)) := fun σ H R Q q => by
  obtain ⟨wi, pi, hw⟩ := hi
  refine we_of (pe_lc (own := own) (g := fun v σ H' Q => Blk X scope fun X' => WG X' tg v σ H' Q) (tt := fun σ H' Q => Blk X scope fun X' => WTs X' [c] σ H' Q) (te := fun σ H' Q => Blk X scope fun X' => WE X' elt σ H' Q) hc hN pi ok (fun s H C cl fp => ⟨fun pins s1 σ1 H1 v u Q1 I r h => h s H C cl fp pins s1 u I r⟩) (fun s H C cl fp => ⟨fun pins s1 σ1 H1 Q1 I h => h s H C cl fp pins s1 I⟩) (fun s H C cl fp => ⟨fun pins s1 σ1 H1 Q1 I h => h s H C cl fp pins s1 I⟩) hs) ?_
  exact lc_core ixs E2 p f hx hlen hw htg (fun x hx O' hO s H C cl fp => ts_one (hif x hx O' hO s H C cl fp)) hel R q
theorem x_lc0 {xs : List α} {g : α → SV} (own : List (Str × Nat)) (ixs : List Nat) (E2 : α → En) (f : α → PyData) (hN : X.N.Nodup) (hi : IT X tg iter E O xs g) (ok : BlkOk X.N X.env.scope scope own) (hlen : xs.length ≤ 100000)
    (htg : ∀ x ∈ xs, Blk X scope fun X' => TGr X' tg ixs (g x) (wipeE E (own.map (·.2))) (E2 x))
    (hel : ∀ x ∈ xs, ∀ O', (∀ q ∈ O, q ∈ O') → Blk X scope fun X' => EX X' elt (E2 x) O' (.d (f x)))
    (hx : ∀ j ∈ ixs, j ∈ own.map (·.2) := by decide) (hc : X.calm = true := by rfl) (hs : ∀ x, foldedSetIterable iter X.env x = pure x := by intro _; rfl) : EX X (.ListComp elt [⟨tg, iter, [], 0⟩] scope pos) E O (vL (xs.map f)) := fun σ H R Q q => by
  obtain ⟨wi, pi, hw⟩ := hi
  refine we_of (pe_lc (own := own) (g := fun v σ H' Q => Blk X scope fun X' => WG X' tg v σ H' Q) (tt := fun σ H' Q => Blk X scope fun X' => WTs X' [] σ H' Q) (te := fun σ H' Q => Blk X scope fun X' => WE X' elt σ H' Q) hc hN pi ok (fun s H C cl fp => ⟨fun pins s1 σ1 H1 v u Q1 I r h => h s H C cl fp pins s1 u I r⟩) (fun s H C cl fp => ⟨fun pins s1 σ1 H1 Q1 I h => h s H C cl fp pins s1 I⟩) (fun s H C cl fp => ⟨fun pins s1 σ1 H1 Q1 I h => h s H C cl fp pins s1 I⟩) hs) ?_
  refine lc_core ixs E2 (fun _ => true) f hx hlen hw htg (fun x hx O' hO s H C cl fp => ts_nil) (fun x hx _ => hel x hx) R ?_
  rw [List.filter_eq_self.mpr (fun _ _ => rfl)]
  exact q
/-- name = [elt for tg in iter if c], on one line -/
theorem s_lc {D : PD} {xs : List α} {g : α → SV} {y : Str} {py spos : Pos} (i : Nat) (own : List (Str × Nat)) (ixs : List Nat) (E2 : α → En) (p : α → Bool) (f : α → PyData) (hN : X.N.Nodup) (hi : IT X tg iter E O xs g) (ok : BlkOk X.N X.env.scope scope own) (hlen : xs.length ≤ 100000)
    (hsw : swapsWith (.ListComp elt [⟨tg, iter, [c], 0⟩] scope pos) (some (.Name y py)) spos.line X.env = pure true)
    (htg : ∀ x ∈ xs, Blk X scope fun X' => TGr X' tg ixs (g x) (wipeE E (own.map (·.2))) (E2 x))
    (hif : ∀ x ∈ xs, ∀ O', (∀ q ∈ O, q ∈ O') → Blk X scope fun X' => ET X' c (E2 x) O' (p x))
    (hel : ∀ x ∈ xs, p x = true → ∀ O', (∀ q ∈ O, q ∈ O') → Blk X scope fun X' => EX X' elt (E2 x) O' (.d (f x)))
    (h : D.nx (E.set i (some (vL ((xs.filter p).map f)))) O)
    (hy : X.N[i]? = some y := by rfl) (hyl : X.env.scope.names.lookup y = some .local := by rfl)
    (hx : ∀ j ∈ ixs, j ∈ own.map (·.2) := by decide) (hc : X.calm = true := by rfl) (hs : ∀ x, foldedSetIterable iter X.env x = pure x := by intro _; rfl) : SG X (.Assign [.Name y py] (.ListComp elt [⟨tg, iter, [c], 0⟩] scope pos) spos) E O D := fun σ H R D' rf => by
  obtain ⟨wi, pi, hw⟩ := hi
  refine ws_of (ps_setLc (own := own) (g := fun v σ H' Q => Blk X scope fun X' => WG X' tg v σ H' Q) (tt := fun σ H' Q => Blk X scope fun X' => WTs X' [c] σ H' Q) (te := fun σ H' Q => Blk X scope fun X' => WE X' elt σ H' Q) hc hN hy hyl hsw pi ok (fun s H C cl fp => ⟨fun pins s1 σ1 H1 v u Q1 I r h => h s H C cl fp pins s1 u I r⟩) (fun s H C cl fp => ⟨fun pins s1 σ1 H1 Q1 I h => h s H C cl fp pins s1 I⟩) (fun s H C cl fp => ⟨fun pins s1 σ1 H1 Q1 I h => h s H C cl fp pins s1 I⟩) hs) ?_
  refine lc_core ixs E2 p f hx hlen hw htg (fun x hx O' hO s H C cl fp => ts_one (hif x hx O' hO s H C cl fp)) hel R fun v H1 r O1 ⟨e1, e2⟩ s z => ?_
  subst e1; subst e2
  exact rf.nx _ H1 _ _ h s ((R.step s).set i z)
theorem s_lc0 {D : PD} {xs : List α} {g : α → SV} {y : Str} {py spos : Pos} (i : Nat) (own : List (Str × Nat)) (ixs : List Nat) (E2 : α → En) (f : α → PyData) (hN : X.N.Nodup) (hi : IT X tg iter E O xs g) (ok : BlkOk X.N X.env.scope scope own) (hlen : xs.length ≤ 100000)
    (hsw : swapsWith (.ListComp elt [⟨tg, iter, [], 0⟩] scope pos) (some (.Name y py)) spos.line X.env = pure true)
    (htg : ∀ x ∈ xs, Blk X scope fun X' => TGr X' tg ixs (g x) (wipeE E (own.map (·.2))) (E2 x))
    (hel : ∀ x ∈ xs, ∀ O', (∀ q ∈ O, q ∈ O') → Blk X scope fun X' => EX X' elt (E2 x) O' (.d (f x)))
    (h : D.nx (E.set i (some (vL (xs.map f)))) O)
    (hy : X.N[i]? = some y := by rfl) (hyl : X.env.scope.names.lookup y = some .local := by rfl)
    (hx : ∀ j ∈ ixs, j ∈ own.map (·.2) := by decide) (hc : X.calm = true := by rfl) (hs : ∀ x, foldedSetIterable iter X.env x = pure x := by intro _; rfl) : SG X (.Assign [.Name y py] (.ListComp elt [⟨tg, iter, [], 0⟩] scope pos) spos) E O D := fun σ H R D' rf => by
  obtain ⟨wi, pi, hw⟩ := hi
  refine ws_of (ps_setLc (own := own) (g := fun v σ H' Q => Blk X scope fun X' => WG X' tg v σ H' Q) (tt := fun σ H' Q => Blk X scope fun X' => WTs X' [] σ H' Q) (te := fun σ H' Q => Blk X scope fun X' => WE X' elt σ H' Q) hc hN hy hyl hsw pi ok (fun s H C cl fp => ⟨fun pins s1 σ1 H1 v u Q1 I r h => h s H C cl fp pins s1 u I r⟩) (fun s H C cl fp => ⟨fun pins s1 σ1 H1 Q1 I h => h s H C cl fp pins s1 I⟩) (fun s H C cl fp => ⟨fun pins s1 σ1 H1 Q1 I h => h s H C cl fp pins s1 I⟩) hs) ?_
  refine lc_core ixs E2 (fun _ => true) f hx hlen hw htg (fun x hx O' hO s H C cl fp => ts_nil) (fun x hx _ => hel x hx) R fun v H1 r O1 ⟨e1, e2⟩ s z => ?_
  subst e1; subst e2
  rw [List.filter_eq_self.mpr (fun _ _ => rfl)] at z
  exact rf.nx _ H1 _ _ h s ((R.step s).set i z)
end

/-! ### defs -/
abbrev FSpec := List SV → Own → (SV → Own → Prop) → Prop
def spOf (K : PySem.W.Frag) (T : FSpec) : Sp := fun vs H Q _ => ∃ O rs Φ, OwnOk K O H ∧ SVs K (vis O H) vs rs ∧ T rs O Φ ∧ Kont K O H Φ Q
/-- a def of data alone -/
def pure1 (R : List PyData → PyData → Prop) : FSpec := fun rs O Φ => ∃ ds d, rs = ds.map .d ∧ R ds d ∧ Φ (.d d) O
structure Fn (P : Program) (w : World) (K : PySem.W.Frag) (mg : Str → Option Value) (base : Heap) (x : Str) (k : Nat) (T : FSpec) : Prop where
  ex : ∃ f fd ps, FnOk P w K mg base CX0 k f fd ps (spOf K T) ∧ mg x = some (.ref f) ∧ PySem.W.keepIn K (.ref f) = true ∧ Binds K fd ps []
theorem Fn.mono {P : Program} {w : World} {K : PySem.W.Frag} {mg : Str → Option Value} {base : Heap} {x : Str} {k k' : Nat} {T : FSpec} (h : Fn P w K mg base x k T) (hk : k ≤ k') : Fn P w K mg base x k' T := by
  obtain ⟨f, fd, ps, h1, h2⟩ := h.ex
  exact ⟨f, fd, ps, h1.mono hk, h2⟩
def startE (N : List Str) (rs : List SV) : En := rs.map some ++ List.replicate (N.length - rs.length) none
theorem rep_start {K : PySem.W.Frag} {O : Own} {H : Hp} {N : List Str} {vs : List V} {rs : List SV} (ok : OwnOk K O H) (h : SVs K (vis O H) vs rs) : Rep K (startE N rs) O (L2.start N vs) H := by
  have hl := h.len
  refine ⟨by unfold L2.start startE; simp [hl], ok, fun i r e => ?_⟩
  have key : ∀ {vs : List V} {rs : List SV}, SVs K (vis O H) vs rs → ∀ (i : Nat) (r : SV), rs[i]? = some r → ∃ v, vs[i]? = some v ∧ SVr K (vis O H) v r := by
    intro vs rs h
    induction h with
    | nil => intro i r e; simp at e
    | cons h1 h2 ih =>
      intro i r e
      cases i with
      | zero =>
        simp at e
        subst e
        exact ⟨_, rfl, h1⟩
      | succ i =>
        obtain ⟨v, q1, q2⟩ := ih i r (by simpa using e)
        exact ⟨v, by simpa using q1, q2⟩
  unfold startE at e
  unfold L2.start
  by_cases hi : i < rs.length
  · rw [List.getElem?_append_left (by simpa using hi), List.getElem?_map] at e
    obtain ⟨r', e1, e2⟩ := Option.map_eq_some_iff.mp e
    cases e2
    obtain ⟨v, q1, q2⟩ := key h i r e1
    exact ⟨v, by rw [List.getElem?_append_left (by simpa [hl] using hi), List.getElem?_map, q1]; rfl, q2⟩
  · rw [List.getElem?_append_right (by simpa using hi), List.getElem?_replicate] at e
    split at e <;> cases e
theorem fn_mk {P : Program} {w : World} {K : PySem.W.Frag} {mg : Str → Option Value} {base : Heap} {x qual : Str} {st : Stmt} {f : Addr} {fd : FuncData} {N ps : List Str} {k : Nat} {T : FSpec} (F : Fun K x qual st f fd) (S : FnScope N ps (defScope st)) (hm : mg x = some (.ref f)) (hb : Binds K fd ps [])
    (len : ∀ rs O Φ, T rs O Φ → rs.length = ps.length)
    (hbody : ∀ (X : Cx) (cdv : Value) (A : Around) (outer : List Env) (s : Shared) (H : Hp) (E : XK) (rs : List SV) (O : Own) (Φ : SV → Own → Prop), X = (cxOf CX0 P w K mg base N qual (defScope st) f cdv A outer s H E).nox → Room k X.A → T rs O Φ →
      SB (cxOf CX0 P w K mg base N qual (defScope st) f cdv A outer s H E).nox (defBody st) (startE N rs) O ⟨fun _ O' => Φ vN O', Φ, fun _ _ => False, fun _ _ => False⟩) : Fn P w K mg base x (k + 1) T := by
  refine ⟨f, fd, ps, F.ok S (fun vs H Q E h => ?_) (fun cdv A outer s H vs Q E hr h => ?_), hm, F.kp, hb⟩
  · obtain ⟨O, rs, Φ, ok, h1, h2, _⟩ := h
    rw [h1.len]
    exact len rs O Φ h2
  · obtain ⟨O, rs, Φ, ok, h1, h2, h3⟩ := h
    refine ⟨_, WSs.pss, ?_⟩
    refine hbody _ cdv A outer s H E rs O Φ rfl hr h2 (L2.start N vs) H (rep_start ok h1) _ ⟨?_, ?_, ?_, ?_⟩
    · intro σ' H' E' O' z s R'
      exact h3 .non H' vN O' z s .non
    · intro v H' r O' z s z2
      exact h3 v H' r O' z s z2
    · intro _ _ _ _ z
      exact z.elim
    · intro _ _ _ _ z
      exact z.elim
section
variable {X : Cx} {e : Expr} {es : List Expr} {E : En} {O : Own} {pos p : Pos}
theorem g_call {x : Str} {k : Nat} {T : FSpec} {rs : List SV} {Φ : SV → Own → Prop} (F : Fn X.prog X.w X.K X.mg X.base x k T) (hr : Room k X.A) (ha : EA X (e :: es) E O rs) (hT : T rs O Φ) (hg : Gl X x := by rfl) (hdb : (x == ("__debug__" : Str)) = false := by decide) (he : starEach (e :: es) X.env = (false, eval e X.env) :: starEach es X.env := by rfl) (hpl : (backTo pos (starEach es X.env)).any (·.1) = false := by rfl) :
    EG X (.Call (.Name x p) (e :: es) [] pos) E O Φ := fun σ H R Q q => by
  obtain ⟨f, fd, ps, h1, h2, h3, h4⟩ := F.ex
  refine we_of (pe_call h1 hr hg h2 h3 h4 .nil pass0 WA.pa hdb he hpl) ?_
  refine ha σ H R _ fun vs H1 rs1 O1 ⟨e1, e2⟩ s1 z1 => ?_
  subst e1; subst e2
  refine ⟨_, _, Φ, s1.ok, by rw [List.append_nil]; exact z1, hT, fun v H' r O' f s z => q v H' r O' f (s1.trans s) z⟩
theorem x_call {x : Str} {k : Nat} {Rl : List PyData → PyData → Prop} {ds : List PyData} {d : PyData} (F : Fn X.prog X.w X.K X.mg X.base x k (pure1 Rl)) (hr : Room k X.A) (ha : EA X (e :: es) E O (ds.map .d)) (hT : Rl ds d) (hg : Gl X x := by rfl) (hdb : (x == ("__debug__" : Str)) = false := by decide) (he : starEach (e :: es) X.env = (false, eval e X.env) :: starEach es X.env := by rfl) (hpl : (backTo pos (starEach es X.env)).any (·.1) = false := by rfl) :
    EX X (.Call (.Name x p) (e :: es) [] pos) E O (.d d) := g_call F hr ha ⟨ds, d, rfl, hT, rfl, rfl⟩ hg hdb he hpl
end
end Py
namespace Py
open PySem PySem.Spec PyProof.Rows L2
def Has (K : PySem.W.Frag) (mg : Str → Option Value) (x : Str) (st : Stmt) : Prop := ∃ f fd, FunD K x x (defArgs st) (defBody st) (defScope st) [] [] f fd ∧ mg x = some (.ref f)
section
variable {P : Program} {w : World} {K : PySem.W.Frag} {mg : Str → Option Value} {base : Heap} {x : Str} {st : Stmt} {N ps : List Str} {k : Nat} {T : FSpec}
theorem fn_at {f : Addr} {fd : FuncData} (F : FunD K x x (defArgs st) (defBody st) (defScope st) [] [] f fd) (S : FnScope N ps (defScope st))
    (len : ∀ rs O Φ, T rs O Φ → rs.length = ps.length)
    (hbody : ∀ (cdv : Value) (A : Around) (outer : List Env) (s : Shared) (H : Hp) (E : XK) (rs : List SV) (O : Own) (Φ : SV → Own → Prop), Room k (cxOf CX0 P w K mg base N x (defScope st) f cdv A outer s H E).nox.A → T rs O Φ →
      SB (cxOf CX0 P w K mg base N x (defScope st) f cdv A outer s H E).nox (defBody st) (startE N rs) O ⟨fun _ O' => Φ vN O', Φ, fun _ _ => False, fun _ _ => False⟩) : FnOk P w K mg base CX0 (k + 1) f fd ps (spOf K T) := by
  refine F.ok S (fun vs H Q E h => ?_) (fun cdv A outer s H vs Q E hr h => ?_)
  · obtain ⟨O, rs, Φ, ok, h1, h2, _⟩ := h
    rw [h1.len]
    exact len rs O Φ h2
  · obtain ⟨O, rs, Φ, ok, h1, h2, h3⟩ := h
    refine ⟨_, PSs.nox WSs.pss, ?_⟩
    refine hbody cdv A outer s H E rs O Φ hr h2 (L2.start N vs) H (rep_start ok h1) _ ⟨?_, ?_, ?_, ?_⟩
    · intro σ' H' E' O' z s R'
      exact h3 .non H' vN O' z s .non
    · intro v H' r O' z s z2
      exact h3 v H' r O' z s z2
    · intro _ _ _ _ z
      exact z.elim
    · intro _ _ _ _ z
      exact z.elim
theorem fn_mk2 (F : Has K mg x st) (S : FnScope N ps (defScope st))
    (hb : ∀ (kV doc pm : Value) (an : Option Addr) (cdv ct : Value) (us : List Value), us.length = ps.length → bindArgs (PySem.W.fnOf x x (defArgs st) (defBody st) (defScope st) .none kV doc pm an cdv ct) ⟨us, []⟩ = pure (ps.zip us))
    (len : ∀ rs O Φ, T rs O Φ → rs.length = ps.length)
    (hbody : ∀ (f : Addr) (cdv : Value) (A : Around) (outer : List Env) (s : Shared) (H : Hp) (E : XK) (rs : List SV) (O : Own) (Φ : SV → Own → Prop), Room k (cxOf CX0 P w K mg base N x (defScope st) f cdv A outer s H E).nox.A → T rs O Φ →
      SB (cxOf CX0 P w K mg base N x (defScope st) f cdv A outer s H E).nox (defBody st) (startE N rs) O ⟨fun _ O' => Φ vN O', Φ, fun _ _ => False, fun _ _ => False⟩) : Fn P w K mg base x (k + 1) T := by
  obtain ⟨f, fd, F, hm⟩ := F
  exact ⟨f, fd, ps, fn_at F S len (hbody f), hm, F.kp, F.bindsN hb⟩
/-- the law's own promise -/
def T_law : FSpec := fun rs O Φ => ∃ ns : List Int, ns.length ≤ 63 ∧ rs = [.s ns] ∧ Φ (vB true) O
theorem vis_nil (H : Hp) : vis [] H = H := by
  funext a
  unfold vis
  rw [if_neg (by simp)]
theorem sp_law {H : Hp} {a : Addr} {ns : List Int} (hl : ns.length ≤ 63) (hS : SqL K H a (ns.map V.int)) : spOf K T_law [.ref a] H (fun v _ => v = .bl true) fun _ _ _ => False := by
  refine ⟨[], [.s ns], is1 (vB true) [], ⟨List.nodup_nil, fun _ z => nomatch z⟩, .cons ?_ .nil, ⟨ns, hl, rfl, rfl, rfl⟩, ?_⟩
  · rw [vis_nil]
    exact ⟨a, rfl, hS⟩
  · rintro v H' r O' ⟨rfl, rfl⟩ s z
    exact bl_of z
end
end Py
namespace Py
open PySem PySem.Spec PyProof.Rows L2

section
variable {X : Cx} {a b c e o : Expr} {es : List Expr} {E : En} {O : Own} {pos p p' pos' : Pos}

/-! ### arguments that are data -/
def EAd (X : Cx) (es : List Expr) (E : En) (O : Own) (ds : List PyData) : Prop := EA X es E O (ds.map .d)
theorem ad_nil : EAd X [] E O [] := a_nil
theorem ad_cons {d : PyData} {ds : List PyData} (h : EX X e E O (.d d)) (hr : EAd X es E O ds) (hs : starEach (e :: es) X.env = (false, eval e X.env) :: starEach es X.env := by rfl) : EAd X (e :: es) E O (d :: ds) := a_cons h hr hs
theorem y_tup {ds : List PyData} {k : Nat} (h : EAd X es E O ds) (hl : Nat.ble ds.length 100000 = true := by rfl) : EX X (.Tuple es k pos) E O (vT ds) := x_tup h (Nat.le_of_ble_eq_true hl)
theorem y_lst {ds : List PyData} (h : EAd X es E O ds) (hl : Nat.ble ds.length 100000 = true := by rfl) : EX X (.List es pos) E O (vL ds) := x_lst h (Nat.le_of_ble_eq_true hl)
theorem y_call {x : Str} {k : Nat} {Rl : List PyData → PyData → Prop} {ds : List PyData} {d : PyData} (F : Fn X.prog X.w X.K X.mg X.base x k (pure1 Rl)) (hr : Room k X.A) (ha : EAd X (e :: es) E O ds) (hT : Rl ds d) (hg : Gl X x := by rfl) (hdb : (x == ("__debug__" : Str)) = false := by decide) (he : starEach (e :: es) X.env = (false, eval e X.env) :: starEach es X.env := by rfl) (hpl : (backTo pos (starEach es X.env)).any (·.1) = false := by rfl) :
    EX X (.Call (.Name x p) (e :: es) [] pos) E O (.d d) := x_call F hr ha hT hg hdb he hpl

/-! ### states that say less -/
inductive Ag : En → En → Prop
  | nil : Ag [] []
  | same {r : SV} {E E' : En} : Ag E E' → Ag (some r :: E) (some r :: E')
  | skip {x : Option SV} {E E' : En} : Ag E E' → Ag (none :: E) (x :: E')
theorem Ag.len : ∀ {E E' : En}, Ag E E' → E.length = E'.length
  | _, _, .nil => rfl
  | _, _, .same h => by rw [List.length_cons, List.length_cons, h.len]
  | _, _, .skip h => by rw [List.length_cons, List.length_cons, h.len]
theorem Ag.get : ∀ {E E' : En}, Ag E E' → ∀ (i : Nat) (r : SV), E[i]? = some (some r) → E'[i]? = some (some r)
  | _, _, .nil, i, r, e => by simp at e
  | _, _, .same h, 0, r, e => by simpa using e
  | _, _, .same h, i + 1, r, e => by simpa using h.get i r (by simpa using e)
  | _, _, .skip h, 0, r, e => by simp at e
  | _, _, .skip h, i + 1, r, e => by simpa using h.get i r (by simpa using e)
theorem Ag.refl : ∀ E : En, Ag E E
  | [] => .nil
  | some _ :: E => .same (Ag.refl E)
  | none :: E => .skip (Ag.refl E)
theorem Rep.ag {K : PySem.W.Frag} {E' : En} {σ : L2.St} {H : Hp} (R : Rep K E O σ H) (h : Ag E' E) : Rep K E' O σ H := R.weak h.len h.get
theorem sb_ag {D : PD} {sts : List Stmt} {E' : En} (g : Ag E' E) (h : SB X sts E' O D) : SB X sts E O D := fun σ H R D' rf => h σ H (R.ag g) D' rf
/-- for, by a state t of one's own: E0, O0 tell what it means -/
theorem sb_for {α τ : Type} {tg iter : Expr} {body rest : List Stmt} {D : PD} {xs : List α} {g : α → SV} (hi : IT X tg iter E O xs g) (E0 : Nat → τ → En) (O0 : Nat → τ → Own) (I : Nat → τ → Prop) (t0 : τ) (h0 : I 0 t0) (hE : Ag (E0 0 t0) E) (hO : O = O0 0 t0)
    (hs : ∀ (i : Nat) (t : τ) (hi : i < xs.length), I i t → ∃ E2 ixs, TGr X tg ixs (g xs[i]) (E0 i t) E2 ∧ SB X body E2 (O0 i t) ⟨fun E' O' => ∃ t', I (i + 1) t' ∧ Ag (E0 (i + 1) t') E' ∧ O' = O0 (i + 1) t', D.rt, fun E' O' => SB X rest E' O' D, fun E' O' => ∃ t', I (i + 1) t' ∧ Ag (E0 (i + 1) t') E' ∧ O' = O0 (i + 1) t'⟩)
    (hd : ∀ t, I xs.length t → SB X rest (E0 xs.length t) (O0 xs.length t) D)
    (hc : X.calm = true := by rfl) (hp : PassesOwn (model X.prog X.w) X.A X.env X.xe := by exact PassesOwn.never) (hf : ∀ x, foldedSetIterable iter X.env x = pure x := by intro _; rfl) : SB X (.For tg iter body [] pos :: rest) E O D := by
  refine sb_cons (s_for hi (fun i E' O' => ∃ t, I i t ∧ Ag (E0 i t) E' ∧ O' = O0 i t) ⟨t0, h0, hE, hO⟩ ?_ ?_ hc hp hf)
  · rintro i E' O' hi' ⟨t, it, ag, rfl⟩
    obtain ⟨E2, ixs, h1, h2⟩ := hs i t hi' it
    exact ⟨E2, ixs, fun v σ O H R z Q q => h1 v σ O H (R.ag ag) z Q q, h2⟩
  · rintro E' O' ⟨t, it, ag, rfl⟩
    exact sb_ag ag (hd t it)
/-- while, by a state and a measure -/
theorem sb_while {τ : Type} {c : Expr} {body rest : List Stmt} {D : PD} (E0 : τ → En) (O0 : τ → Own) (I : τ → Prop) (μ : τ → Nat) (t0 : τ) (h0 : I t0) (hE : Ag (E0 t0) E) (hO : O = O0 t0)
    (hs : ∀ t, I t → ∃ k, ET X c (E0 t) (O0 t) k ∧ (k = true → SB X body (E0 t) (O0 t) ⟨fun E' O' => ∃ t', μ t' < μ t ∧ I t' ∧ Ag (E0 t') E' ∧ O' = O0 t', D.rt, fun E' O' => SB X rest E' O' D, fun E' O' => ∃ t', μ t' < μ t ∧ I t' ∧ Ag (E0 t') E' ∧ O' = O0 t'⟩) ∧ (k = false → SB X rest (E0 t) (O0 t) D))
    (hp : PassesOwn (model X.prog X.w) X.A X.env X.xe := by exact PassesOwn.never) : SB X (.While c body [] pos :: rest) E O D := by
  refine sb_cons (s_while (fun m E' O' => ∃ t, m = μ t ∧ I t ∧ Ag (E0 t) E' ∧ O' = O0 t) (μ t0) ⟨t0, rfl, h0, hE, hO⟩ ?_ hp)
  rintro m E' O' ⟨t, rfl, it, ag, rfl⟩
  obtain ⟨k, h1, h2, h3⟩ := hs t it
  refine ⟨k, fun σ H R Q q => h1 σ H (R.ag ag) Q q, fun hk σ H R D' rf => ?_, fun hk => sb_ag ag (h3 hk)⟩
  refine h2 hk σ H (R.ag ag) D' ⟨?_, rf.rt, rf.bk, ?_⟩
  · rintro σ' H' E' O' ⟨t', hm, it', ag', rfl⟩ s R'
    exact rf.nx σ' H' E' _ ⟨μ t', hm, t', rfl, it', ag', rfl⟩ s R'
  · rintro σ' H' E' O' ⟨t', hm, it', ag', rfl⟩ s R'
    exact rf.ct σ' H' E' _ ⟨μ t', hm, t', rfl, it', ag', rfl⟩ s R'
/-- an if whose test fails, without else -/
theorem sb_skip {D : PD} {c : Expr} {as rest : List Stmt} (hc : ET X c E O false) (h : SB X rest E O D) : SB X (.If c as [] pos :: rest) E O D := sb_cons (s_if hc (fun z => nomatch z) fun _ => sb_nil h)
/-- both ways of an if meet -/
theorem sb_ifj {D : PD} {c : Expr} {as bs rest : List Stmt} {k : Bool} (E1 : En) (hc : ET X c E O k) (h1 : k = true → SB X as E O ⟨fun E' O' => Ag E1 E' ∧ O' = O, D.rt, D.bk, D.ct⟩) (h2 : k = false → SB X bs E O ⟨fun E' O' => Ag E1 E' ∧ O' = O, D.rt, D.bk, D.ct⟩) (h : SB X rest E1 O D) : SB X (.If c as bs pos :: rest) E O D := by
  refine sb_cons (s_if hc (fun z => ?_) fun z => ?_)
  · refine fun σ H R D' rf => h1 z σ H R D' ⟨?_, rf.rt, rf.bk, rf.ct⟩
    rintro σ' H' E' O' ⟨ag, rfl⟩ s R'
    exact rf.nx σ' H' E' O' (sb_ag ag h) s R'
  · refine fun σ H R D' rf => h2 z σ H R D' ⟨?_, rf.rt, rf.bk, rf.ct⟩
    rintro σ' H' E' O' ⟨ag, rfl⟩ s R'
    exact rf.nx σ' H' E' O' (sb_ag ag h) s R'
/-! ### own things are let go -/
theorem stp_sub {K : PySem.W.Frag} {O O' : Own} {H : Hp} (ok : OwnOk K O H) (hs : O'.Sublist O) : Stp K O H O' H := by
  have hk : ∀ a, a ∈ O'.map (·.1) → a ∈ O.map (·.1) := fun a h => (hs.map _).subset h
  refine ⟨fun _ _ _ e => e, fun a z => .inl (hk a z), fun _ e => e, ok.nd.sublist (hs.map _), fun q hq => ?_⟩
  refine (ok.is q (hs.subset hq)).sub (fun a o' z => ?_) rfl (fun _ z => z)
  obtain ⟨z1, z2⟩ := vis_some z
  exact vis_of (fun z => z1 (hk a z)) z2
theorem EX.go {r : SV} {O' : Own} (h : EX X e E O r) (hs : O'.Sublist O) : EG X e E O (is1 r O') := fun σ H R Q k => h σ H R Q fun v H' r' O1 ⟨e1, e2⟩ s z => by
  subst e1; subst e2
  have s2 := stp_sub s.ok hs
  exact k v H' _ _ ⟨rfl, rfl⟩ (s.trans s2) (s2.sv z)
theorem s_retO {D : PD} {r : SV} {O' : Own} (he : EX X e E O r) (hs : O'.Sublist O) (h : D.rt r O') : SG X (.Return (some e) pos) E O D := s_retG (he.go hs) (fun r' O' ⟨e1, e2⟩ => by subst e1; subst e2; exact h)
theorem sb_go {D : PD} {sts : List Stmt} {O' : Own} (hs : O'.Sublist O) (h : SB X sts E O' D) : SB X sts E O D := fun σ H R D' rf => h σ H (R.step (stp_sub R.own hs)) D' (rf.step (stp_sub R.own hs))
/-! ### ranges of natural numbers -/
theorem it_rangeN {tg : Expr} {n : Nat} (hm : X.mg "range" = none) (h : EX X a E O (vI (n : Int))) (hb : n ≤ 100000) (hg : Gl X "range" := by rfl) (hs : starEach [a] X.env = [(false, eval a X.env)] := by rfl) : IT X tg (.Call (.Name "range" p) [a] [] pos) E O (List.range n) (fun i => vI (i : Int)) :=
  (it_range1 hg hm h (by omega) hs).as (by simp)
theorem it_range2N {tg : Expr} {lo n : Nat} (hm : X.mg "range" = none) (h1 : EX X a E O (vI (lo : Int))) (h2 : EX X b E O (vI (n : Int))) (hb : lo ≤ 100000 ∧ n ≤ 100000) (hg : Gl X "range" := by rfl)
    (hs : starEach [a, b] X.env = [(false, eval a X.env), (false, eval b X.env)] := by rfl) (hs2 : starEach [b] X.env = [(false, eval b X.env)] := by rfl) : IT X tg (.Call (.Name "range" p) [a, b] [] pos) E O (List.range (n - lo)) (fun i => vI ((lo + i : Nat) : Int)) :=
  (it_range2 hg hm h1 h2 (by omega) hs hs2).as (by
    have e : ((n : Int) - (lo : Int)).toNat = n - lo := by omega
    rw [e]
    apply List.map_congr_left
    intro i _
    show vI _ = vI _
    simp)
/-! ### own lists -/
theorem g_newL : EG X (.List [] pos) E O fun r O' => ∃ q, r = .v (.ref q) ∧ O' = (q, .lst []) :: O ∧ q ∉ O.map (·.1) := fun σ H R Q k => we_of (pe_lst pa_nil) (by
  refine ⟨Nat.zero_le _, fun q hq => ?_⟩
  exact k _ _ _ _ ⟨q, rfl, rfl, R.own.fresh hq⟩ (Stp.own R.own hq ⟨[], upd_same, .nil⟩) rfl)
theorem g_newD : EG X (.Dict [] [] pos) E O fun r O' => ∃ q, r = .v (.ref q) ∧ O' = (q, .dic []) :: O ∧ q ∉ O.map (·.1) := fun σ H R Q k => we_of pe_dnewK (by
  intro q hq
  exact k _ _ _ _ ⟨q, rfl, rfl, R.own.fresh hq⟩ (Stp.own R.own hq ⟨[], upd_same, .nil⟩) rfl)
theorem g_append {q : Addr} {ds : List PyData} {d : PyData} (ha : EX X a E O (.v (.ref q))) (hb : EX X b E O (.d d)) (hO : (q, .lst ds) ∈ O) (hl : ds.length < 100000)
    (p1 : PE X (.Call (.Attribute a "append" p) [b] [] pos) (tBM X.K "list" rAppend (WE X a) (WA X [b]))) (hs : starEach [b] X.env = (false, eval b X.env) :: starEach [] X.env := by rfl) :
    EG X (.Call (.Attribute a "append" p) [b] [] pos) E O fun r O' => r = vN ∧ O' = setO O q (.lst (ds ++ [d])) := fun σ H R Q k => we_of p1 (by
  refine ha σ H R _ fun v H1 r1 O1 ⟨e1, e2⟩ s1 z1 => ?_
  subst e1; subst e2
  obtain rfl : v = .ref q := z1
  obtain ⟨vs, h1, h2⟩ := s1.ok.is _ hO
  refine ⟨.inl ⟨rfl, _, SqL.of h1⟩, ?_⟩
  refine (a_cons hb a_nil hs : EA X [b] E _ [.d d]) σ H1 (R.step s1) _ fun us H2 rs O2 ⟨e1, e2⟩ s2 z2 => ?_
  subst e1; subst e2
  cases z2 with
  | cons z2 z3 =>
    cases z3
    obtain ⟨vs2, h3, h4⟩ := s2.ok.is _ hO
    refine ⟨q, vs2, _, rfl, rfl, h3, ?_, ?_⟩
    · rw [dpa_len h4]
      exact Nat.lt_of_lt_of_le hl (by decide)
    · have s3 := Stp.put (o := .lst (ds ++ [d])) (ho := .lst (vs2 ++ [_])) s2.ok (List.mem_map_of_mem hO) (fun x e => by rw [h3] at e; cases e) ⟨_, upd_same, dpa_app h4 (.cons z2 .nil)⟩
      exact k _ _ _ _ ⟨rfl, rfl⟩ ((s1.trans s2).trans s3) .non)
theorem s_append {D : PD} {q : Addr} {ds : List PyData} {d : PyData} (ha : EX X a E O (.v (.ref q))) (hb : EX X b E O (.d d)) (hO : (q, .lst ds) ∈ O) (hl : ds.length < 100000) (h : D.nx E (setO O q (.lst (ds ++ [d]))))
    (hbase : attributeBase a "append" X.env (eval a X.env) = eval a X.env := by rfl)
    (hfew : ((backTo pos (starEach [b] X.env)).all (fun x => !x.1) && (backToKw pos (keywordEach [] X.env)).all (fun x => x.1.isSome)
      && decide (([b] : List Expr).length + ([] : List Keyword).length + (if ([] : List Keyword).isEmpty then 0 else 1) < 30)) = true := by rfl)
    (hline : (p.endLine == pos.line) = true := by rfl) (hplain : (backTo pos (starEach [] X.env)).any (·.1) = false := by rfl) (hs : starEach [b] X.env = (false, eval b X.env) :: starEach [] X.env := by rfl)
    (hw : swapsWith (.Call (.Attribute a "append" p) [b] [] pos) none pos'.line X.env = pure false := by rfl) :
    SG X (.Expr (.Call (.Attribute a "append" p) [b] [] pos) pos') E O D := s_exprG (g_append ha hb hO hl (pe_bm PySem.F.plainAttrs_list PySem.F.slot_list_append PySem.F.type_list_append mt_append WE.pe WA.pa hbase hfew hline hs hplain) hs) (fun r O' ⟨e1, e2⟩ => by subst e2; exact h) hw

/-- an own list is let go: from here on it is data -/
theorem sb_free {D : PD} {sts : List Stmt} {E' : En} {q : Addr} {ds : List PyData} (hO : (q, .lst ds) ∈ O) (hl : E'.length = E.length) (hE : ∀ (j : Nat) (r : SV), E'[j]? = some (some r) → E[j]? = some (some r) ∨ (E[j]? = some (some (.v (.ref q))) ∧ r = vL ds)) (h : SB X sts E' (dropO O q) D) : SB X sts E O D := fun σ H R D' rf => by
  have s := Stp.drop R.own q
  refine h σ H ⟨R.len.trans hl.symm, s.ok, fun j r e => ?_⟩ D' (rf.step s)
  rcases hE j r e with h1 | ⟨h1, h2⟩
  · obtain ⟨v, z1, z2⟩ := R.sl j r h1
    exact ⟨v, z1, s.sv z2⟩
  · subst h2
    obtain ⟨v, z1, z2⟩ := R.sl j _ h1
    obtain rfl : v = .ref q := z2
    exact ⟨_, z1, R.own.dropL hO⟩

/-! ### dicts with int keys -/
def dval (kvs : List (Int × PyData)) (k : Int) : Option PyData := (kvs.find? fun kv => decide (kv.1 = k)).map (·.2)
def dput (kvs : List (Int × PyData)) (k : Int) (v : PyData) : List (Int × PyData) :=
  if (kvs.any fun kv => decide (kv.1 = k)) = true then kvs.map (fun kv => if kv.1 = k then (kv.1, v) else kv) else kvs ++ [(k, v)]
abbrev KvR (W : Hp) : List (Key × V) → List (Int × PyData) → Prop := Paired fun (p : Key × V) (q : Int × PyData) => p.1 = Sum.inl q.1 ∧ Dq W p.2 q.2
theorem kv_val {W : Hp} {k : Int} : ∀ {vs : List (Key × V)} {kvs : List (Int × PyData)}, KvR W vs kvs → match dval kvs k with
    | some d => ∃ v, valV vs (Sum.inl k) = some v ∧ Dq W v d
    | none => valV vs (Sum.inl k) = none
  | _, _, .nil => rfl
  | (x, v) :: vs, (j, d) :: kvs, .cons ⟨e, h⟩ t => by
    obtain rfl : x = Sum.inl j := e
    by_cases hj : j = k
    · subst hj
      have e1 : dval ((j, d) :: kvs) j = some d := by simp [dval]
      rw [e1]
      exact ⟨v, valV_pos rfl, h⟩
    · have e1 : dval ((j, d) :: kvs) k = dval kvs k := by simp [dval, hj]
      have e2 : valV ((Sum.inl j, v) :: vs) (Sum.inl k : Key) = valV vs (Sum.inl k) := valV_neg (fun z => hj (Sum.inl.inj z))
      rw [e1, e2]
      exact kv_val t
theorem kv_len {W : Hp} {vs : List (Key × V)} {kvs : List (Int × PyData)} (h : KvR W vs kvs) : vs.length = kvs.length := Paired.length h
theorem kv_any {W : Hp} {k : Int} : ∀ {vs : List (Key × V)} {kvs : List (Int × PyData)}, KvR W vs kvs → (vs.any fun kv => decide (kv.1 = (Sum.inl k : Key))) = (kvs.any fun kv => decide (kv.1 = k))
  | _, _, .nil => rfl
  | (x, v) :: vs, (j, d) :: kvs, .cons ⟨e, h⟩ t => by
    obtain rfl : x = Sum.inl j := e
    rw [List.any_cons, List.any_cons, kv_any t]
    congr 1
    by_cases hj : j = k
    · subst hj; simp
    · simp [hj]
theorem kv_repl {W : Hp} {k : Int} {v : V} {d : PyData} (h : Dq W v d) : ∀ {vs : List (Key × V)} {kvs : List (Int × PyData)}, KvR W vs kvs → KvR W (vs.map fun kv => if kv.1 = Sum.inl k then (kv.1, v) else kv) (kvs.map fun kv => if kv.1 = k then (kv.1, d) else kv)
  | _, _, .nil => .nil
  | (x, u) :: vs, (j, d') :: kvs, .cons ⟨e, h1⟩ t => by
    obtain rfl : x = Sum.inl j := e
    rw [List.map_cons, List.map_cons]
    refine .cons ?_ (kv_repl h t)
    by_cases hj : j = k
    · subst hj
      simp only [if_true]
      exact ⟨trivial, h⟩
    · simp only [if_neg hj, if_neg (fun z => hj (Sum.inl.inj z) : ¬ (Sum.inl j : Key) = Sum.inl k)]
      exact ⟨trivial, h1⟩
theorem kv_app {W : Hp} : ∀ {vs us : List (Key × V)} {kvs js : List (Int × PyData)}, KvR W vs kvs → KvR W us js → KvR W (vs ++ us) (kvs ++ js)
  | _, _, _, _, .nil, b => b
  | _, _, _, _, .cons h t, b => .cons h (kv_app t b)
theorem kv_put {W : Hp} {k : Int} {v : V} {d : PyData} (h : Dq W v d) {vs : List (Key × V)} {kvs : List (Int × PyData)} (r : KvR W vs kvs) : KvR W (putK vs (Sum.inl k) v) (dput kvs k d) := by
  unfold putK dput
  rw [kv_any r]
  split
  · exact kv_repl h r
  · exact kv_app r (.cons ⟨rfl, h⟩ .nil)
theorem dput_len (kvs : List (Int × PyData)) (k : Int) (v : PyData) : (dput kvs k v).length ≤ kvs.length + 1 := by
  unfold dput
  split
  · rw [List.length_map]; omega
  · rw [List.length_append, List.length_singleton]; omega
theorem x_dget {q : Addr} {kvs : List (Int × PyData)} {k : Int} {d : PyData} (ha : EX X a E O (.v (.ref q))) (hb : EX X b E O (vI k)) (hO : (q, .dic kvs) ∈ O) (h : dval kvs k = some d) (hs : NoSl b := by exact fun _ _ => rfl) (hu : X.A.units + 64 < cLine := by assumption) : EX X (.Subscript a b pos) E O (.d d) := fun σ H R Q kk => we_of (pe_dget (by omega) WE.pe WE.pe hs) (by
  refine ha σ H R _ fun v H1 r1 O1 ⟨e1, e2⟩ s1 z1 => ?_
  subst e1; subst e2
  obtain rfl : v = .ref q := z1
  refine hb σ H1 (R.step s1) _ fun v H2 r2 O2 ⟨e1, e2⟩ s2 z2 => ?_
  subst e1; subst e2
  obtain rfl := int_of z2
  obtain ⟨vs, h1, h2⟩ := s2.ok.is _ hO
  have hv := kv_val (k := k) h2
  rw [h] at hv
  obtain ⟨v, h3, h4⟩ := hv
  refine ⟨q, v, rfl, ?_, kk _ H2 _ _ ⟨rfl, rfl⟩ (s1.trans s2) h4⟩
  rw [← h3]
  exact DGet.k (k := Sum.inl k) h1)
theorem c_din {q : Addr} {kvs : List (Int × PyData)} {k : Int} (ha : EX X a E O (vI k)) (hb : EX X b E O (.v (.ref q))) (hO : (q, .dic kvs) ∈ O) (hu : X.A.units + 64 < cLine := by assumption) : CX1 X .In a b E O (dval kvs k).isSome := fun σ H R Q kk => wc_of (pc_din (by omega) WE.pe WE.pe) (by
  refine ha σ H R _ fun v H1 r1 O1 ⟨e1, e2⟩ s1 z1 => ?_
  subst e1; subst e2
  obtain rfl := int_of z1
  refine hb σ H1 (R.step s1) _ fun v H2 r2 O2 ⟨e1, e2⟩ s2 z2 => ?_
  subst e1; subst e2
  obtain rfl : v = .ref q := z2
  obtain ⟨vs, h1, h2⟩ := s2.ok.is _ hO
  refine ⟨q, valV vs (Sum.inl k), rfl, DGet.k (k := Sum.inl k) h1, kk _ H2 _ _ ⟨rfl, rfl⟩ (s1.trans s2) ?_⟩
  have hv := kv_val (k := k) h2
  cases hd : dval kvs k with
  | none =>
    rw [hd] at hv
    rw [show valV vs (Sum.inl k) = none from hv]
    exact .bl _
  | some d =>
    rw [hd] at hv
    obtain ⟨v, h3, _⟩ := hv
    rw [h3]
    exact .bl _)
theorem x_dget2 {q : Addr} {kvs : List (Int × PyData)} {k : Int} {d : PyData} (ho : EX X o E O (.v (.ref q))) (ha : EX X a E O (vI k)) (hb : EX X b E O (.d d)) (hO : (q, .dic kvs) ∈ O)
    (m : M2 X o "get" p a b pos := by exact ⟨rfl, rfl, rfl, rfl⟩) (hu : X.A.units + 64 < cLine := by assumption) : EX X (.Call (.Attribute o "get" p) [a, b] [] pos) E O (.d ((dval kvs k).getD d)) := fun σ H R Q kk => we_of (pe_dget2 (by omega) WE.pe WE.pe WE.pe m) (by
  refine ho σ H R _ fun v H1 r1 O1 ⟨e1, e2⟩ s1 z1 => ?_
  subst e1; subst e2
  obtain rfl : v = .ref q := z1
  obtain ⟨vs0, h0, _⟩ := s1.ok.is _ hO
  refine ⟨q, rfl, .inl ⟨_, Rd.of h0⟩, ?_⟩
  refine ha σ H1 (R.step s1) _ fun v H2 r2 O2 ⟨e1, e2⟩ s2 z2 => ?_
  subst e1; subst e2
  obtain rfl := int_of z2
  refine hb σ H2 (R.step (s1.trans s2)) _ fun u H3 r3 O3 ⟨e1, e2⟩ s3 z3 => ?_
  subst e1; subst e2
  obtain ⟨vs, h1, h2⟩ := s3.ok.is _ hO
  refine ⟨valV vs (Sum.inl k), DGet.k (k := Sum.inl k) h1, kk _ H3 _ _ ⟨rfl, rfl⟩ ((s1.trans s2).trans s3) ?_⟩
  have hv := kv_val (k := k) h2
  cases hd : dval kvs k with
  | none =>
    rw [hd] at hv
    rw [show valV vs (Sum.inl k) = none from hv]
    exact z3
  | some d =>
    rw [hd] at hv
    obtain ⟨v, h3, h4⟩ := hv
    rw [h3]
    exact h4)
theorem s_dput {D : PD} {q : Addr} {kvs : List (Int × PyData)} {k : Int} {d : PyData} (ho : EX X o E O (.v (.ref q))) (ha : EX X a E O (vI k)) (hb : EX X b E O (.d d)) (hO : (q, .dic kvs) ∈ O) (hl : kvs.length < 100000)
    (h : D.nx E (setO O q (.dic (dput kvs k d)))) (hs : swapsWith b (some (.Subscript o a p)) pos.line X.env = pure false := by rfl) (hu : X.A.units + 64 < cLine := by assumption) : SG X (.Assign [.Subscript o a p] b pos) E O D := fun σ H R D' rf => ws_of (ps_dput (by omega) WE.pe WE.pe WE.pe hs) (by
  refine hb σ H R _ fun u H1 r1 O1 ⟨e1, e2⟩ s1 z1 => ?_
  subst e1; subst e2
  refine ho σ H1 (R.step s1) _ fun v H2 r2 O2 ⟨e1, e2⟩ s2 z2 => ?_
  subst e1; subst e2
  obtain rfl : v = .ref q := z2
  refine ha σ H2 (R.step (s1.trans s2)) _ fun v H3 r3 O3 ⟨e1, e2⟩ s3 z3 => ?_
  subst e1; subst e2
  obtain rfl := int_of z3
  obtain ⟨vs, h1, h2⟩ := s3.ok.is _ hO
  refine ⟨q, _, rfl, DPut.k (k := Sum.inl k) h1 (by rw [kv_len h2]; exact Nat.lt_of_lt_of_le hl (by decide)), ?_⟩
  have z1' := (s2.trans s3).sv z1
  have s4 := Stp.put (o := .dic (dput kvs k d)) (ho := .dK (putK vs (Sum.inl k) u)) s3.ok (List.mem_map_of_mem hO) (fun x e => by rw [h1] at e; cases e) ⟨_, upd_same, kv_put z1' h2⟩
  have s14 := ((s1.trans s2).trans s3).trans s4
  exact rf.nx σ _ E _ h s14 (R.step s14))
def dmerge (kvs more : List (Int × PyData)) : List (Int × PyData) := more.foldl (fun acc kv => dput acc kv.1 kv.2) kvs
theorem kv_merge {W : Hp} : ∀ {ms : List (Key × V)} {more : List (Int × PyData)}, KvR W ms more → ∀ {vs : List (Key × V)} {kvs : List (Int × PyData)}, KvR W vs kvs → KvR W (mergeK vs ms) (dmerge kvs more) := by
  intro ms more h
  induction h with
  | nil => intro vs kvs r; exact r
  | @cons p q ps qs h1 h2 ih =>
    intro vs kvs r
    obtain ⟨x, u⟩ := p
    obtain ⟨j, d⟩ := q
    obtain ⟨e, h1⟩ := h1
    obtain rfl : x = Sum.inl j := e
    exact ih (kv_put h1 r)
/-- dict(a list of pairs): one's own -/
theorem g_dict {kvs : List (Int × PyData)} (hm : X.mg "dict" = none) (ha : EX X a E O (vL (kvs.map fun kv => .tuple [.int kv.1, kv.2]))) (hg : Gl X "dict" := by rfl) (hc : X.calm = true := by rfl) (hs : starEach [a] X.env = (false, eval a X.env) :: starEach [] X.env := by rfl) (hpl : (backTo pos (starEach [] X.env)).any (·.1) = false := by rfl) : EG X (.Call (.Name "dict" p) [a] [] pos) E O fun r O' => ∃ q, r = .v (.ref q) ∧ O' = (q, .dic (dmerge [] kvs)) :: O ∧ q ∉ O.map (·.1) := fun σ H R Q k => we_of (pe_callTy (call_dictP hc) hg hm PyProof.Rows.boot_dict WA.pa (by decide) (by decide) hs hpl) (by
  refine (a_cons ha a_nil hs : EA X [a] E O [_]) σ H R _ fun us H1 rs O1 ⟨e1, e2⟩ s1 z1 => ?_
  subst e1; subst e2
  cases z1 with
  | cons z1 z2 =>
    cases z2
    obtain ⟨l, vs, rfl, h1, h2⟩ := lst_of z1
    have key : ∀ {vs : List V} {kvs : List (Int × PyData)}, DqAll (vis O1 H1) vs (kvs.map fun kv => .tuple [.int kv.1, kv.2]) → ∃ (ps : List Addr) (ks : List (Key × V)), vs = ps.map V.ref ∧ Paired (fun p kv => Rd H1 p (.tup [kV kv.1, kv.2])) ps ks ∧ KvR (vis O1 H1) ks kvs := by
      intro vs kvs
      induction kvs generalizing vs with
      | nil =>
        intro h
        cases h
        exact ⟨[], [], rfl, .nil, .nil⟩
      | cons kv r ih =>
        intro h
        cases h with
        | cons h3 h4 =>
          obtain ⟨ps, ks, e1, e2, e3⟩ := ih h4
          cases h3 with
          | tup h5 h6 =>
            cases h6 with
            | cons h6 h7 =>
              cases h6
              cases h7 with
              | cons h7 h8 =>
                cases h8
                refine ⟨_ :: ps, (Sum.inl kv.1, _) :: ks, by rw [e1]; rfl, .cons (rd_sub (vis_sub _ _) h5) e2, .cons ⟨rfl, h7⟩ e3⟩
    obtain ⟨ps, ks, e1, e2, e3⟩ := key h2
    subst e1
    refine ⟨l, ps, ks, rfl, SqL.of (vis_sub _ _ _ _ h1), Paired.mapP e2 fun _ _ z => .inl z, fun q hq => ?_⟩
    have s2 := Stp.own (o := .dic (dmerge [] kvs)) (ho := .dK (mergeK [] ks)) s1.ok hq ⟨_, upd_same, by
      refine kv_merge (Paired.mapP e3 fun _ _ z => ⟨z.1, dp_sub (fun x u hx => ?_) _ _ z.2⟩) .nil
      obtain ⟨n, hx⟩ := vis_some hx
      refine vis_of (fun hm => ?_) (by rw [upd_ne (ne_of_none hx hq)]; exact hx)
      rcases List.mem_cons.mp hm with hm | hm
      · rw [hm, hq] at hx
        cases hx
      · exact n hm⟩
    exact k _ _ _ _ ⟨q, rfl, rfl, s1.ok.fresh hq⟩ (s1.trans s2) rfl)

/-! ### tuple(list), list(tuple), len -/
theorem x_tuple {ds : List PyData} (hm : X.mg "tuple" = none) (ha : EX X a E O (vL ds)) (hg : Gl X "tuple" := by rfl) (hs : starEach [a] X.env = (false, eval a X.env) :: starEach [] X.env := by rfl) (hpl : (backTo pos (starEach [] X.env)).any (·.1) = false := by rfl) : EX X (.Call (.Name "tuple" p) [a] [] pos) E O (vT ds) := fun σ H R Q k => we_of (pe_callTy call_tuple_of hg hm PyProof.Rows.boot_tuple WA.pa (by decide) (by decide) hs hpl) (by
  refine (a_cons ha a_nil hs : EA X [a] E O [_]) σ H R _ fun us H1 rs O1 ⟨e1, e2⟩ s1 z1 => ?_
  subst e1; subst e2
  cases z1 with
  | cons z1 z2 =>
    cases z2
    obtain ⟨l, vs, rfl, h1, h2⟩ := lst_of z1
    refine ⟨l, vs, rfl, .inl ⟨SqL.of (vis_sub _ _ _ _ h1), fun q hq => ?_⟩⟩
    have s2 := Stp.laid (o := .tup vs) s1.ok hq
    exact k _ _ _ _ ⟨rfl, rfl⟩ (s1.trans s2) (.tup (.inl (vis_laid s1.ok hq)) (dpAll_sub s2.vis _ _ h2)))
theorem x_listT {ds : List PyData} (hm : X.mg "list" = none) (ha : EX X a E O (vT ds)) (hg : Gl X "list" := by rfl) (hs : starEach [a] X.env = (false, eval a X.env) :: starEach [] X.env := by rfl) (hpl : (backTo pos (starEach [] X.env)).any (·.1) = false := by rfl) : EX X (.Call (.Name "list" p) [a] [] pos) E O (vL ds) := fun σ H R Q k => we_of (pe_callTy call_list_of hg hm PyProof.Rows.boot_list WA.pa (by decide) (by decide) hs hpl) (by
  refine (a_cons ha a_nil hs : EA X [a] E O [_]) σ H R _ fun us H1 rs O1 ⟨e1, e2⟩ s1 z1 => ?_
  subst e1; subst e2
  cases z1 with
  | cons z1 z2 =>
    cases z2
    obtain ⟨l, vs, rfl, h1, h2⟩ := tup_of z1
    refine ⟨l, vs, rfl, .inr (.inl (rd_sub (vis_sub _ _) h1)), fun q hq => ?_⟩
    have s2 := Stp.laid (o := .lst vs) s1.ok hq
    exact k _ _ _ _ ⟨rfl, rfl⟩ (s1.trans s2) (.lst (vis_laid s1.ok hq) (dpAll_sub s2.vis _ _ h2)))
theorem x_lenL {ds : List PyData} (hm : X.mg "len" = none) (ha : EX X a E O (vL ds)) (hg : Gl X "len" := by rfl) (hs : starEach [a] X.env = (false, eval a X.env) :: starEach [] X.env := by rfl) (hpl : (backTo pos (starEach [] X.env)).any (·.1) = false := by rfl) : EX X (.Call (.Name "len" p) [a] [] pos) E O (vI ds.length) := fun σ H R Q k => we_of (pe_callB call_len_seq hg hm PySem.boot_len WA.pa (by decide) (by decide) hs hpl) (by
  refine (a_cons ha a_nil hs : EA X [a] E O [_]) σ H R _ fun us H1 rs O1 ⟨e1, e2⟩ s1 z1 => ?_
  subst e1; subst e2
  cases z1 with
  | cons z1 z2 =>
    cases z2
    obtain ⟨l, vs, rfl, h1, h2⟩ := lst_of z1
    refine ⟨l, vs, rfl, .inl (SqL.of (vis_sub _ _ _ _ h1)), k _ _ _ _ ⟨rfl, rfl⟩ s1 ?_⟩
    rw [dpa_len h2]
    exact .int _)
theorem x_lenT {ds : List PyData} (hm : X.mg "len" = none) (ha : EX X a E O (vT ds)) (hg : Gl X "len" := by rfl) (hs : starEach [a] X.env = (false, eval a X.env) :: starEach [] X.env := by rfl) (hpl : (backTo pos (starEach [] X.env)).any (·.1) = false := by rfl) : EX X (.Call (.Name "len" p) [a] [] pos) E O (vI ds.length) := fun σ H R Q k => we_of (pe_callB call_len_seq hg hm PySem.boot_len WA.pa (by decide) (by decide) hs hpl) (by
  refine (a_cons ha a_nil hs : EA X [a] E O [_]) σ H R _ fun us H1 rs O1 ⟨e1, e2⟩ s1 z1 => ?_
  subst e1; subst e2
  cases z1 with
  | cons z1 z2 =>
    cases z2
    obtain ⟨l, vs, rfl, h1, h2⟩ := tup_of z1
    refine ⟨l, vs, rfl, .inr (.inl (rd_sub (vis_sub _ _) h1)), k _ _ _ _ ⟨rfl, rfl⟩ s1 ?_⟩
    rw [dpa_len h2]
    exact .int _)
theorem x_lenS {ns : List Int} (hm : X.mg "len" = none) (ha : EX X a E O (.s ns)) (hg : Gl X "len" := by rfl) (hs : starEach [a] X.env = (false, eval a X.env) :: starEach [] X.env := by rfl) (hpl : (backTo pos (starEach [] X.env)).any (·.1) = false := by rfl) : EX X (.Call (.Name "len" p) [a] [] pos) E O (vI ns.length) := fun σ H R Q k => we_of (pe_callB call_len_seq hg hm PySem.boot_len WA.pa (by decide) (by decide) hs hpl) (by
  refine (a_cons ha a_nil hs : EA X [a] E O [_]) σ H R _ fun us H1 rs O1 ⟨e1, e2⟩ s1 z1 => ?_
  subst e1; subst e2
  cases z1 with
  | cons z1 z2 =>
    cases z2
    obtain ⟨l, rfl, h1⟩ := z1
    refine ⟨l, _, rfl, .inl (sub_L (vis_sub _ _) h1), k _ _ _ _ ⟨rfl, rfl⟩ s1 ?_⟩
    rw [List.length_map]
    exact .int _)
theorem x_ixS {ns : List Int} {i n : Int} (ha : EX X a E O (.s ns)) (hb : EX X b E O (vI i)) (h : atI ns i = some n) (hs : PlainIx b := by exact fun _ _ => rfl) : EX X (.Subscript a b pos) E O (vI n) :=
  x_op (pe_ix ix_list WE.pe WE.pe hs) ha hb fun x y H ok hx hy Q q => by
    obtain ⟨l, rfl, h1⟩ := hx
    refine ⟨l, _, i, .int n, rfl, int_of hy, sub_L (vis_sub _ _) h1, ?_, q _ H _ _ ⟨rfl, rfl⟩ (.refl ok) (.int n)⟩
    unfold atI at h ⊢
    rw [List.length_map]
    cases hi : ixN ns.length i with
    | none => rw [hi] at h; cases h
    | some j =>
      rw [hi] at h
      show (ns.map V.int)[j]? = some (.int n)
      rw [List.getElem?_map, show ns[j]? = some n from h]
      rfl

/-! ### sorted -/
abbrev pD (q : Int × Int) : PyData := .tuple [.int q.1, .int q.2]
def lexle (p q : Int × Int) : Prop := SrtO.lexB q p = false
theorem lexle_anti {p q : Int × Int} (h1 : lexle p q) (h2 : lexle q p) : p = q := by
  have a := SrtO.lexB_no.mp h1
  have b := SrtO.lexB_no.mp h2
  obtain ⟨p1, p2⟩ := p
  obtain ⟨q1, q2⟩ := q
  simp only at a b
  have e1 : p1 = q1 := by omega
  have e2 : p2 = q2 := by omega
  rw [e1, e2]
theorem lexle_of {p q : Int × Int} (h : p.1 < q.1 ∨ (p.1 = q.1 ∧ p.2 ≤ q.2)) : lexle p q := SrtO.lexB_no.mpr (by omega)
def keyV (H : Hp) : V → Int × Int
  | .ref t => match H t with
    | some (.tup [.int i, .int j]) => (i, j)
    | some (.frz _ (.tup [.int i, .int j])) => (i, j)
    | _ => (0, 0)
  | _ => (0, 0)
theorem keyV_rd {H : Hp} {t : Addr} {i j : Int} (h : Rd H t (.tup [.int i, .int j])) : keyV H (.ref t) = (i, j) := by
  unfold keyV
  rcases h with h | ⟨o, h⟩ <;> simp only [h]
theorem pairs_of {W : Hp} : ∀ {vs : List V} {ps : List (Int × Int)}, DqAll W vs (ps.map pD) → (∀ x ∈ vs, ∃ t, x = V.ref t ∧ Rd W t (.tup [.int (keyV W x).1, .int (keyV W x).2])) ∧ vs.map (keyV W) = ps
  | _, [], .nil => ⟨fun _ z => (by cases z), rfl⟩
  | _, p :: ps, .cons h t => by
    obtain ⟨h1, h2⟩ := pairs_of t
    cases h with
    | @tup a xs _ h3 h4 =>
      cases h4 with
      | cons h4 h5 =>
        cases h4
        cases h5 with
        | cons h5 h6 =>
          cases h5
          cases h6
          have e : keyV W (.ref a) = p := keyV_rd h3
          refine ⟨fun x hx => ?_, by rw [List.map_cons, e, h2]⟩
          rcases List.mem_cons.mp hx with rfl | hx
          · refine ⟨a, rfl, ?_⟩
            rw [e]
            exact h3
          · exact h1 x hx
theorem dq_pairs {W : Hp} : ∀ {vs : List V}, (∀ x ∈ vs, ∃ t, x = V.ref t ∧ Rd W t (.tup [.int (keyV W x).1, .int (keyV W x).2])) → DqAll W vs ((vs.map (keyV W)).map pD)
  | [], _ => .nil
  | x :: vs, h => by
    obtain ⟨t, rfl, h1⟩ := h x List.mem_cons_self
    exact .cons (.tup h1 (.cons (.int _) (.cons (.int _) .nil))) (dq_pairs fun y hy => h y (List.mem_cons_of_mem _ hy))
/-- sorted(pairs of ints), the pairs told by k -/
def rSrt (K : PySem.W.Frag) : List V → Hp → VK → Prop := fun vs H Q => ∃ (a : Addr) (xs : List V) (k : V → Int × Int), vs = [V.ref a] ∧ SqL K H a xs ∧
  (∀ x ∈ xs, ∃ t, x = V.ref t ∧ SqT K H t [.int (k x).1, .int (k x).2]) ∧ ∀ ys p, ys.Pairwise (fun x y => lexle (k x) (k y)) → ys.Perm xs → H p = none → Q (.ref p) (upd H p (.lst ys))
theorem cr_srt : CallR X (.builtin "sorted") (rSrt X.K) := by
  intro pins s σ H vs us Q I r ⟨a, xs, k, e0, hs, hx, q⟩
  subst e0
  obtain ⟨its, rv, hl, hz⟩ := I.list hs
  have hlen : its.length ≤ sizeLine := rv.length ▸ hz
  obtain ⟨u, rfl, ru⟩ := vals1 r
  obtain rfl : u = Value.ref a := ru
  obtain ⟨e1, e2⟩ := refs_back rv (fun x m => (hx x m).imp fun t z => z.1)
  have hp : ∀ v ∈ its, Srt.IsPair s.heap v (k (backV v)).1 (k (backV v)).2 := fun v hv => by
    obtain ⟨t, rfl⟩ := e2 v hv
    obtain ⟨t', e, ht⟩ := hx (V.ref t) (e1 ▸ List.mem_map.mpr ⟨_, hv, rfl⟩)
    injection e with e
    subst e
    obtain ⟨its2, r2, ⟨o, ho, hc, n, hd⟩, _⟩ := I.tuple ht
    obtain ⟨u1, u2, rfl, ⟨t1, rfl⟩, ⟨t2, rfl⟩⟩ := vals2 r2
    exact ⟨t, o, t1, t2, n, rfl, ho, hc, hd⟩
  refine SrtO.sorted_pairsO (k := fun v => k (backV v)) hl.isList hlen hp fun h' d out h1 h2 kp hd ⟨n, hn⟩ => ?_
  have h3 : ∀ u ∈ out, ∃ a, u = Value.ref a := fun u hu => e2 u ((h2.perm.mem_iff).mp hu)
  have pm : (out.map backV).Perm xs := by
    rw [e1]
    exact h2.perm.map backV
  have new : ObjOk X.prog X.w (upd H d (.lst (out.map backV))) h' d (.lst (out.map backV)) := ⟨by rw [pm.length_eq]; exact hz, out, n, vals_back h3, hn⟩
  exact ⟨V.ref d, _, I.laid (t' := s.toks) kp hd new, rfl, q _ d (List.pairwise_map.mpr h1) pm (I.hok.fresh hd)⟩
theorem x_sortedP {ps ps' : List (Int × Int)} (hm : X.mg "sorted" = none) (ha : EX X a E O (vL (ps.map pD))) (hp : ps'.Perm ps) (hs' : ps'.Pairwise lexle) (hg : Gl X "sorted" := by rfl) (hs : starEach [a] X.env = (false, eval a X.env) :: starEach [] X.env := by rfl) (hpl : (backTo pos (starEach [] X.env)).any (·.1) = false := by rfl) :
    EX X (.Call (.Name "sorted" p) [a] [] pos) E O (vL (ps'.map pD)) := fun σ H R Q k => we_of (pe_callB cr_srt hg hm PyProof.Rows.boot_sorted WA.pa (by decide) (by decide) hs hpl) (by
  refine (a_cons ha a_nil hs : EA X [a] E O [_]) σ H R _ fun us H1 rs O1 ⟨e1, e2⟩ s1 z1 => ?_
  subst e1; subst e2
  cases z1 with
  | cons z1 z2 =>
    cases z2
    obtain ⟨l, vs, rfl, h1, h2⟩ := lst_of z1
    obtain ⟨h3, h4⟩ := pairs_of h2
    refine ⟨l, vs, keyV (vis O1 H1), rfl, SqL.of (vis_sub _ _ _ _ h1), fun x hx => ?_, fun ys q hy1 hperm hq => ?_⟩
    · obtain ⟨t, e, h5⟩ := h3 x hx
      exact ⟨t, e, .inl (rd_sub (vis_sub _ _) h5)⟩
    · have e : ys.map (keyV (vis O1 H1)) = ps' := by
        refine List.Perm.eq_of_pairwise (le := lexle) (fun a b _ _ => lexle_anti) ?_ hs' ((hperm.map _).trans (by rw [h4]; exact hp.symm))
        rw [List.pairwise_map]
        exact hy1
      have s2 := Stp.laid (o := .lst ys) s1.ok hq
      refine k _ _ _ _ ⟨rfl, rfl⟩ (s1.trans s2) (.lst (vis_laid s1.ok hq) ?_)
      rw [← e]
      exact dpAll_sub s2.vis _ _ (dq_pairs fun x hx => h3 x (hperm.mem_iff.mp hx)))
theorem x_sortedI {ns ns' : List Int} (hm : X.mg "sorted" = none) (ha : EX X a E O (vL (ns.map .int))) (hp : ns'.Perm ns) (hs' : ns'.Pairwise (· ≤ ·)) (hg : Gl X "sorted" := by rfl) (hs : starEach [a] X.env = (false, eval a X.env) :: starEach [] X.env := by rfl) (hpl : (backTo pos (starEach [] X.env)).any (·.1) = false := by rfl) : EX X (.Call (.Name "sorted" p) [a] [] pos) E O (vL (ns'.map .int)) := fun σ H R Q k => we_of (pe_callB cr_sortedI hg hm PyProof.Rows.boot_sorted WA.pa (by decide) (by decide) hs hpl) (by
  refine (a_cons ha a_nil hs : EA X [a] E O [_]) σ H R _ fun us H1 rs O1 ⟨e1, e2⟩ s1 z1 => ?_
  subst e1; subst e2
  cases z1 with
  | cons z1 z2 =>
    cases z2
    obtain ⟨l, vs, rfl, h1, h2⟩ := lst_of z1
    obtain rfl := dpa_ofInts h2
    refine ⟨l, ns, rfl, SqL.of (vis_sub _ _ _ _ h1), fun ys q hy1 hy2 hq => ?_⟩
    have e : ys = ns' := List.Perm.eq_of_pairwise (le := (· ≤ ·)) (fun a b _ _ h1 h2 => Int.le_antisymm h1 h2) hy2 hs' (hy1.trans hp.symm)
    subst e
    have s2 := Stp.laid (o := .lst (ys.map V.int)) s1.ok hq
    exact k _ _ _ _ ⟨rfl, rfl⟩ (s1.trans s2) (.lst (vis_laid s1.ok hq) dpa_ints))
end
end Py
namespace Py
open PySem PySem.Spec PyProof.Rows L2

/-! ### tuples whose object is known (their methods may be called) -/
section
variable {X : Cx} {a b c e o : Expr} {es : List Expr} {E : En} {O : Own} {pos p p' pos' : Pos}
theorem SVr.td {K : PySem.W.Frag} {W : Hp} {v : V} {ds : List PyData} (h : SVr K W v (.t ds)) : SVr K W v (vT ds) := by
  obtain ⟨a, o, vs, rfl, h1, _, h2⟩ := h
  exact .tup (.inr ⟨o, h1⟩) h2
theorem EX.td {ds : List PyData} (h : EX X e E O (.t ds)) : EX X e E O (vT ds) := fun σ H R Q k => h σ H R Q fun v H' r O' ⟨e1, e2⟩ s z => by
  subst e1; subst e2
  exact k v H' _ _ ⟨rfl, rfl⟩ s z.td
/-- a slot's exact tuple taken as plain data -/
theorem x_vart (i : Nat) {x : Str} {ds : List PyData} (h : E[i]? = some (some (.t ds)) := by rfl) (hN : X.N[i]? = some x := by rfl) (hv : Vis X.env.scope x := by first | exact Or.inl rfl | exact Or.inr (Or.inl rfl) | exact Or.inr (Or.inr rfl)) (hd : (x == ("__debug__" : Str)) = false := by decide)
    (hcd : (x == ("__classdict__" : Str)) = false := by decide) : EX X (.Name x pos) E O (vT ds) := (x_var i h hN hv hd hcd).td
def newTupObj (its : List Value) : Obj := { cls := .type "tuple", data := .seq its.toArray }
theorem obj_tupF {P : Program} {w : World} {H : Hp} {h : Heap} {q : Addr} {vs : List V} {its : List Value} (hz : vs.length ≤ sizeLine) (r : Vals vs its) (hg : h.get? q = some (newTupObj its)) : ObjOk P w H h q (.frz (newTupObj its) (.tup vs)) :=
  ⟨hg, hz, its, r, _, hg, rfl, _, rfl⟩
def rTupM (K : PySem.W.Frag) : List V → Hp → VK → Prop := fun xs H Q => ∃ p ys, xs = [.ref p] ∧ SqL K H p ys ∧ ∀ l o, H l = none → o.dict = none → Q (.ref l) (upd H l (.frz o (.tup ys)))
theorem cr_tupM : CallR X (.type "tuple") (rTupM X.K) := by
  intro pins s σ H xs us Q I r ⟨q, ys, e0, hq, k⟩
  subst e0
  obtain ⟨u, rfl, rx⟩ := vals1 r
  obtain rfl : u = Value.ref q := rx
  obtain ⟨its, r', pl, hz⟩ := I.list hq
  have hsz : its.toArray.size ≤ sizeLine := by rw [List.size_toArray, ← r'.length]; exact hz
  refine call_tuple_list pl.isList (fun h' kp => ?_) hsz
  have I1 := I.kept (t' := s.toks) kp
  have I2 := I1.laid (t' := s.toks) (a := h'.objs.size) (h' := h'.push (newTupObj its)) (fun _ _ e => Heap.get?_push_of_some _ e) (Nat.le_refl _) (obj_tupF hz r' (Heap.get?_push_size _ rfl))
  exact ⟨.ref h'.objs.size, _, I2, rfl, k _ _ (I1.hok.fresh (Nat.le_refl _)) rfl⟩
theorem x_tupleM {ds : List PyData} (hm : X.mg "tuple" = none) (ha : EX X a E O (vL ds)) (hg : Gl X "tuple" := by rfl) (hs : starEach [a] X.env = (false, eval a X.env) :: starEach [] X.env := by rfl) (hpl : (backTo pos (starEach [] X.env)).any (·.1) = false := by rfl) :
    EX X (.Call (.Name "tuple" p) [a] [] pos) E O (.t ds) := fun σ H R Q k => we_of (pe_callTy cr_tupM hg hm PyProof.Rows.boot_tuple WA.pa (by decide) (by decide) hs hpl) (by
  refine (a_cons ha a_nil hs : EA X [a] E O [_]) σ H R _ fun us H1 rs O1 ⟨e1, e2⟩ s1 z1 => ?_
  subst e1; subst e2
  cases z1 with
  | cons z1 z2 =>
    cases z2
    obtain ⟨l, vs, rfl, h1, h2⟩ := lst_of z1
    refine ⟨l, vs, rfl, SqL.of (vis_sub _ _ _ _ h1), fun q o hq ho => ?_⟩
    have s2 := Stp.laid (o := .frz o (.tup vs)) s1.ok hq
    exact k _ _ _ _ ⟨rfl, rfl⟩ (s1.trans s2) ⟨q, o, vs, rfl, vis_laid s1.ok hq, ho, dpAll_sub s2.vis _ _ h2⟩)
def tTupM (t : TA) : TE := fun σ H Q => t σ H fun xs H1 => xs.length ≤ sizeLine ∧ ∀ q o, H1 q = none → o.dict = none → Q (.ref q) (upd H1 q (.frz o (.tup xs)))
theorem pe_tupM {k : Nat} {t : TA} (h : PA X es t) : PE X (.Tuple es k pos) (tTupM t) := ⟨fun pins s σ H Q I hq => wpAny_Tuple_spliced (thn (h.run pos pins s σ H _ I hq) fun us s1 ⟨xs, H1, I1, r, z, q⟩ => by
  refine ⟨r.length ▸ z, ?_⟩
  have I2 := I1.laid (t' := s1.toks) (a := s1.heap.objs.size) (h' := s1.heap.push (newTupObj us)) (fun _ _ e => Heap.get?_push_of_some _ e) (Nat.le_refl _) (obj_tupF z r (Heap.get?_push_size _ rfl))
  exact ⟨.ref s1.heap.objs.size, _, I2, rfl, q _ _ (I1.hok.fresh (Nat.le_refl _)) rfl⟩)⟩
theorem y_tupM {ds : List PyData} {k : Nat} (h : EAd X es E O ds) (hl : Nat.ble ds.length 100000 = true := by rfl) : EX X (.Tuple es k pos) E O (.t ds) := fun σ H R Q kk => we_of (pe_tupM WA.pa) (by
  refine h σ H R _ fun vs H1 rs O1 ⟨e1, e2⟩ s1 z1 => ?_
  subst e1; subst e2
  have hd := z1.data
  refine ⟨by rw [dpa_len hd]; exact Nat.le_trans (Nat.le_of_ble_eq_true hl) (by decide), fun q o hq ho => ?_⟩
  have s2 := Stp.laid (o := .frz o (.tup vs)) s1.ok hq
  exact kk _ _ _ _ ⟨rfl, rfl⟩ (s1.trans s2) ⟨q, o, vs, rfl, vis_laid s1.ok hq, ho, dpAll_sub s2.vis _ _ hd⟩)

/-! ### t + u -/
theorem x_catT {ds fs : List PyData} (ha : EX X a E O (vT ds)) (hb : EX X b E O (vT fs)) (hl : ds.length + fs.length ≤ 100000) : EX X (.BinOp a .Add b pos) E O (vT (ds ++ fs)) :=
  x_op (pe_op op_catA WE.pe WE.pe) ha hb fun x y H ok hx hy Q q => by
    obtain ⟨p, vs, rfl, h1, h2⟩ := tup_of hx
    obtain ⟨p', us, rfl, h3, h4⟩ := tup_of hy
    refine ⟨p, p', vs, us, rfl, rfl, .inl (rd_sub (vis_sub _ _) h1), .inl (rd_sub (vis_sub _ _) h3), ?_, fun z => ?_, fun _ z => ?_, fun _ _ q' hq => ?_⟩
    · rw [dpa_len h2, dpa_len h4]
      exact Nat.le_trans hl (by decide)
    · subst z
      cases h2
      exact q _ H _ _ ⟨rfl, rfl⟩ (.refl ok) hy
    · subst z
      cases h4
      rw [List.append_nil] at q
      exact q _ H _ _ ⟨rfl, rfl⟩ (.refl ok) hx
    · have s2 := Stp.laid (o := .tup (vs ++ us)) ok hq
      exact q _ _ _ _ ⟨rfl, rfl⟩ s2 (.tup (.inl (vis_laid ok hq)) (dpa_app (dpAll_sub s2.vis _ _ h2) (dpAll_sub s2.vis _ _ h4)))
def rCatM (K : PySem.W.Frag) : R2 := fun x y H Q => ∃ a b xs ys, x = .ref a ∧ y = .ref b ∧ SqT K H a xs ∧ SqT K H b ys ∧ xs.length + ys.length ≤ sizeLine ∧
  (xs = [] → Q (.ref b) H) ∧ (xs ≠ [] → ys = [] → Q (.ref a) H) ∧ (xs ≠ [] → ys ≠ [] → ∀ q o, H q = none → o.dict = none → Q (.ref q) (upd H q (.frz o (.tup (xs ++ ys)))))
theorem op_catM : OpR X (binaryOp .Add) (rCatM X.K) := by
  intro pins s σ H x y v u Q I rx ry ⟨a, b, xs, ys, e1, e2, ha, hb, hz, q0, q1, q2⟩
  subst e1; subst e2
  obtain rfl : v = Value.ref a := rx
  obtain rfl : u = Value.ref b := ry
  obtain ⟨its, r1, p1, _⟩ := I.tuple ha
  obtain ⟨jts, r2, p2, _⟩ := I.tuple hb
  by_cases hx : xs = []
  · subst hx
    cases r1
    exact cat_tup0 p1 p2 ⟨.ref b, H, I, rfl, q0 rfl⟩
  · have hlen : its.length + jts.length ≤ sizeLine := by rw [← r1.length, ← r2.length]; exact hz
    refine HT.cat_tup p1 p2 (fun z => hx (r1.nil_iff.mp z)) (fun z => ⟨.ref a, H, I, rfl, q1 hx (r2.nil_iff.mp z)⟩) (fun z => ?_) hlen
    have hy : ys ≠ [] := fun w => z (r2.nil_iff.mpr w)
    have I2 := I.laid (t' := s.toks) (a := s.heap.objs.size) (h' := s.heap.push (newTupObj (its ++ jts))) (fun _ _ e => Heap.get?_push_of_some _ e) (Nat.le_refl _) (obj_tupF (by rw [List.length_append]; exact hz) (r1.append r2) (Heap.get?_push_size _ rfl))
    exact ⟨.ref s.heap.objs.size, _, I2, rfl, q2 hx hy _ _ (I.hok.fresh (Nat.le_refl _)) rfl⟩
theorem x_catM {ds fs : List PyData} (ha : EX X a E O (.t ds)) (hb : EX X b E O (.t fs)) (hl : ds.length + fs.length ≤ 100000) : EX X (.BinOp a .Add b pos) E O (.t (ds ++ fs)) :=
  x_op (pe_op op_catM WE.pe WE.pe) ha hb fun x y H ok hx hy Q q => by
    obtain ⟨p, vs, rfl, h1, h2⟩ := tup_of hx.td
    obtain ⟨p', us, rfl, h3, h4⟩ := tup_of hy.td
    refine ⟨p, p', vs, us, rfl, rfl, .inl (rd_sub (vis_sub _ _) h1), .inl (rd_sub (vis_sub _ _) h3), ?_, fun z => ?_, fun _ z => ?_, fun _ _ q' o hq ho => ?_⟩
    · rw [dpa_len h2, dpa_len h4]
      exact Nat.le_trans hl (by decide)
    · subst z
      cases h2
      exact q _ H _ _ ⟨rfl, rfl⟩ (.refl ok) hy
    · subst z
      cases h4
      rw [List.append_nil] at q
      exact q _ H _ _ ⟨rfl, rfl⟩ (.refl ok) hx
    · have s2 := Stp.laid (o := .frz o (.tup (vs ++ us))) ok hq
      exact q _ _ _ _ ⟨rfl, rfl⟩ s2 ⟨q', o, _, rfl, vis_laid ok hq, ho, dpa_app (dpAll_sub s2.vis _ _ h2) (dpAll_sub s2.vis _ _ h4)⟩
/-! ### xs + ys of lists -/
theorem x_catL {ds fs : List PyData} (ha : EX X a E O (vL ds)) (hb : EX X b E O (vL fs)) (hl : ds.length + fs.length ≤ 100000) : EX X (.BinOp a .Add b pos) E O (vL (ds ++ fs)) :=
  x_op (pe_op op_cat WE.pe WE.pe) ha hb fun x y H ok hx hy Q q => by
    obtain ⟨p, vs, rfl, h1, h2⟩ := lst_of hx
    obtain ⟨p', us, rfl, h3, h4⟩ := lst_of hy
    refine ⟨p, p', vs, us, rfl, rfl, vis_sub _ _ _ _ h1, vis_sub _ _ _ _ h3, ?_, fun q' hq => ?_⟩
    · rw [dpa_len h2, dpa_len h4]
      exact Nat.le_trans hl (by decide)
    · have s2 := Stp.laid (o := .lst (vs ++ us)) ok hq
      exact q _ _ _ _ ⟨rfl, rfl⟩ s2 (.lst (vis_laid ok hq) (dpa_app (dpAll_sub s2.vis _ _ h2) (dpAll_sub s2.vis _ _ h4)))

/-! ### methods of a tuple -/
theorem pe_tm {name : Str} {id : String} {rr : V → List V → Hp → VK → Prop} {to : TE} {t : TA} (slot : Slot "tuple" name id) (hty : typeOf (.builtin id) = pure (.type "method_descriptor")) (hm : MtR X id rr) (ho : PE X o to) (ha : PA X (e :: es) t)
    (hbase : attributeBase o name X.env (eval o X.env) = eval o X.env)
    (hfew : ((backTo pos (starEach (e :: es) X.env)).all (fun x => !x.1) && (backToKw pos (keywordEach [] X.env)).all (fun x => x.1.isSome)
      && decide ((e :: es).length + ([] : List Keyword).length + (if ([] : List Keyword).isEmpty then 0 else 1) < 30)) = true)
    (hline : (p.endLine == pos.line) = true) (hs : starEach (e :: es) X.env = (false, eval e X.env) :: starEach es X.env) (hplain : (backTo pos (starEach es X.env)).any (·.1) = false) :
    PE X (.Call (.Attribute o name p) (e :: es) [] pos) (fun σ H Q => to σ H fun x H1 => (∃ (q : Addr) (ob : Obj) (vs : List V), x = .ref q ∧ H1 q = some (.frz ob (.tup vs)) ∧ ob.dict = none) ∧ t σ H1 fun xs H2 => rr x xs H2 Q) :=
  ⟨fun pins s σ H Q I h => wpAny_Call_method_late hbase hfew hline rfl (thn (ho.run pins s σ H _ I h) fun v s1 ⟨x, H1, I1, r1, ⟨q, ob, vs, e0, h1, h2⟩, q1⟩ => by
    subst e0
    obtain rfl : v = Value.ref q := r1
    obtain ⟨g1, _, its, _, hT⟩ := I1.hok q _ h1
    refine ⟨"tuple", id, PySem.F.plainAttrs_tuple, slot, hty, hT.typeIs, fun c hc => ?_, ?_⟩
    · injection hc with hc
      subst hc
      exact ⟨ob, g1, h2⟩
    have hA := ha.run pos pins s1 σ H1 _ I1 q1
    rw [hs] at hA ⊢
    refine Calls.callWith_builtin ?_ (Calls.evalArgs_plain (thn hA fun us s2 ⟨ws, H2, I2, r2, q2⟩ => hm pins s2 σ H2 (.ref q) ws _ us Q I2 rfl r2 q2))
    show (false || (backTo pos (starEach es X.env)).any (·.1)) = false
    rw [hplain]
    rfl)⟩
theorem eq_ints {A : Around} {s : Shared} {k : Int} {t : Tok} : ∀ {its : List Value} {ns : List Int}, IntsAre its ns → ∀ (j : Nat) (h1 : j < its.length) (h2 : j < ns.length), SeqAt.EqAt A s its[j] (.int k t) (decide (ns[j] = k)) := fun {its ns} hi j h1 h2 => by
  obtain ⟨tk, e⟩ := IntsAre.int_at hi j its[j] (List.getElem?_eq_getElem h1)
  rw [e, List.getD_eq_getElem?_getD, List.getElem?_eq_getElem h2]
  intro prog w E Q hq
  refine wpAny_eqBool_int ?_
  rwa [Bool.beq_eq_decide_eq]
def rCntT : V → List V → Hp → VK → Prop := fun x xs H Q => ∃ (q : Addr) (ob : Obj) (ns : List Int) (k : Int), x = .ref q ∧ xs = [.int k] ∧ H q = some (.frz ob (.tup (ns.map V.int))) ∧ Q (.int (ns.count k : Nat)) H
def isK (k : Int) : Value → Bool
  | .int j _ => decide (j = k)
  | _ => false
theorem mt_cntT : MtR X "tuple.count" rCntT := by
  intro pins s σ H x xs v us Q I rx rxs ⟨q, ob, ns, k, e1, e2, hq, z⟩
  subst e1; subst e2
  obtain rfl : v = Value.ref q := rx
  obtain ⟨u, rfl, ru⟩ := rxs.one
  obtain ⟨t, rfl⟩ := ru
  obtain ⟨g1, hz, its, rv, ob', g2, hc, n, hd⟩ := I.hok q _ hq
  obtain ⟨cls, dd, data, sl⟩ := ob'
  simp only at hc hd
  subst hc; subst hd
  have hi : IntsAre its ns := rv.ints
  refine call_meets PySem.F.slot_tuple_count ⟨_, g2, rfl⟩ PySem.F.entry_tuple_count (PySem.F.args_tuple_count_2 _ _) (SeqAt.tuple_countAt q its.toArray n dd sl (.int k t) (isK k)) ⟨g2, fun y hy => ?_, ?_⟩
  · obtain ⟨j, hj, rfl⟩ := List.getElem_of_mem (show y ∈ its by simpa using hy)
    have hj2 : j < ns.length := by rw [← hi.length]; exact hj
    have h := eq_ints (A := X.A.in1) (s := s) (k := k) (t := t) hi j hj hj2
    obtain ⟨tk, e⟩ := IntsAre.int_at hi j its[j] (List.getElem?_eq_getElem hj)
    have e2 : isK k its[j] = decide (ns[j] = k) := by
      rw [e, List.getD_eq_getElem?_getD, List.getElem?_eq_getElem hj2]
      rfl
    rw [e2]
    exact h
  · have ec : its.toArray.toList.countP (isK k) = ns.count k := by
      have key : ∀ {its : List Value} {ns : List Int}, IntsAre its ns → its.countP (isK k) = ns.count k := by
        intro its ns h
        induction h with
        | nil => rfl
        | cons _ _ _ ih =>
          rw [List.countP_cons, List.count_cons, ih]
          show _ + (if decide (_ = k) = true then 1 else 0) = _
          simp
      exact key hi
    rw [ec]
    exact ⟨.int (ns.count k : Nat), H, I.tok _, ⟨s.toks, rfl⟩, z⟩
theorem t_ints {K : PySem.W.Frag} {W : Hp} {v : V} {ns : List Int} (h : SVr K W v (.t (ns.map .int))) : ∃ q ob, v = .ref q ∧ W q = some (.frz ob (.tup (ns.map V.int))) ∧ ob.dict = none := by
  obtain ⟨q, ob, vs, e, h1, h2, h3⟩ := h
  rw [dpa_ofInts h3] at h1
  exact ⟨q, ob, e, h1, h2⟩
theorem x_tmI {name : Str} {id : String} {rr : V → List V → Hp → VK → Prop} {ns : List Int} {k z : Int} (slot : Slot "tuple" name id) (hty : typeOf (.builtin id) = pure (.type "method_descriptor")) (hm : MtR X id rr)
    (hrr : ∀ (q : Addr) (ob : Obj) (H : Hp) (Q : VK), H q = some (.frz ob (.tup (ns.map V.int))) → Q (.int z) H → rr (.ref q) [.int k] H Q)
    (ha : EX X a E O (.t (ns.map .int))) (hb : EX X b E O (vI k)) (hbase : attributeBase a name X.env (eval a X.env) = eval a X.env)
    (hfew : ((backTo pos (starEach [b] X.env)).all (fun x => !x.1) && (backToKw pos (keywordEach [] X.env)).all (fun x => x.1.isSome)
      && decide (([b] : List Expr).length + ([] : List Keyword).length + (if ([] : List Keyword).isEmpty then 0 else 1) < 30)) = true)
    (hline : (p.endLine == pos.line) = true) (hs : starEach [b] X.env = (false, eval b X.env) :: starEach [] X.env) (hplain : (backTo pos (starEach [] X.env)).any (·.1) = false) :
    EX X (.Call (.Attribute a name p) [b] [] pos) E O (vI z) := fun σ H R Q k' => we_of (pe_tm slot hty hm WE.pe WA.pa hbase hfew hline hs hplain) (by
  refine ha σ H R _ fun v H1 r1 O1 ⟨e1, e2⟩ s1 z1 => ?_
  subst e1; subst e2
  obtain ⟨q, ob, rfl, h1, h2⟩ := t_ints z1
  refine ⟨⟨q, ob, _, rfl, vis_sub _ _ _ _ h1, h2⟩, ?_⟩
  refine (a_cons hb a_nil hs : EA X [b] E _ [vI k]) σ H1 (R.step s1) _ fun us H2 rs O2 ⟨e1, e2⟩ s2 z2 => ?_
  subst e1; subst e2
  cases z2 with
  | cons z2 z3 =>
    cases z3
    obtain rfl := int_of z2
    exact hrr q ob H2 Q (vis_sub _ _ _ _ (s2.vis _ _ h1)) (k' _ _ _ _ ⟨rfl, rfl⟩ (s1.trans s2) (.int _)))
theorem x_countT {ns : List Int} {k : Int} (ha : EX X a E O (.t (ns.map .int))) (hb : EX X b E O (vI k)) (hbase : attributeBase a "count" X.env (eval a X.env) = eval a X.env := by rfl)
    (hfew : ((backTo pos (starEach [b] X.env)).all (fun x => !x.1) && (backToKw pos (keywordEach [] X.env)).all (fun x => x.1.isSome)
      && decide (([b] : List Expr).length + ([] : List Keyword).length + (if ([] : List Keyword).isEmpty then 0 else 1) < 30)) = true := by rfl)
    (hline : (p.endLine == pos.line) = true := by rfl) (hs : starEach [b] X.env = (false, eval b X.env) :: starEach [] X.env := by rfl) (hplain : (backTo pos (starEach [] X.env)).any (·.1) = false := by rfl) :
    EX X (.Call (.Attribute a "count" p) [b] [] pos) E O (vI (ns.count k : Nat)) := x_tmI PySem.F.slot_tuple_count PySem.F.type_tuple_count mt_cntT (fun q ob H Q h1 h2 => ⟨q, ob, ns, k, rfl, rfl, h1, h2⟩) ha hb hbase hfew hline hs hplain
def rIdxT : V → List V → Hp → VK → Prop := fun x xs H Q => ∃ (q : Addr) (ob : Obj) (ns : List Int) (k : Int), x = .ref q ∧ xs = [.int k] ∧ H q = some (.frz ob (.tup (ns.map V.int))) ∧ k ∈ ns ∧ Q (.int (ns.idxOf k : Nat)) H
theorem mt_idxT : MtR X "tuple.index" rIdxT := by
  intro pins s σ H x xs v us Q I rx rxs ⟨q, ob, ns, k, e1, e2, hq, hk, z⟩
  subst e1; subst e2
  obtain rfl : v = Value.ref q := rx
  obtain ⟨u, rfl, ru⟩ := rxs.one
  obtain ⟨t, rfl⟩ := ru
  obtain ⟨g1, hz, its, rv, hT⟩ := I.hok q _ hq
  have hi : IntsAre its ns := rv.ints
  exact PySem.SeqAt.call_tuple_index (ks := ns) (k := k) hT ⟨hi.length, fun j h1 h2 => eq_ints hi j h1 h2⟩ hk ⟨.int (ns.idxOf k : Nat), H, I.tok _, ⟨_, rfl⟩, z⟩
theorem x_indexT {ns : List Int} {k : Int} (ha : EX X a E O (.t (ns.map .int))) (hb : EX X b E O (vI k)) (hk : k ∈ ns) (hbase : attributeBase a "index" X.env (eval a X.env) = eval a X.env := by rfl)
    (hfew : ((backTo pos (starEach [b] X.env)).all (fun x => !x.1) && (backToKw pos (keywordEach [] X.env)).all (fun x => x.1.isSome)
      && decide (([b] : List Expr).length + ([] : List Keyword).length + (if ([] : List Keyword).isEmpty then 0 else 1) < 30)) = true := by rfl)
    (hline : (p.endLine == pos.line) = true := by rfl) (hs : starEach [b] X.env = (false, eval b X.env) :: starEach [] X.env := by rfl) (hplain : (backTo pos (starEach [] X.env)).any (·.1) = false := by rfl) :
    EX X (.Call (.Attribute a "index" p) [b] [] pos) E O (vI (ns.idxOf k : Nat)) := x_tmI PySem.F.slot_tuple_index PySem.F.type_tuple_index mt_idxT (fun q ob H Q h1 h2 => ⟨q, ob, ns, k, rfl, rfl, h1, hk, h2⟩) ha hb hbase hfew hline hs hplain
end
end Py
namespace Py
open PySem PySem.Spec PyProof.Rows L2
section
variable {X : Cx} {a b c e o : Expr} {es : List Expr} {E : En} {O : Own} {pos p p' pos' : Pos}
/-! ### min, max, sum -/
theorem lst_ints {K : PySem.W.Frag} {W : Hp} {v : V} {ns : List Int} (h : SVr K W v (vL (ns.map .int))) : ∃ q, v = .ref q ∧ W q = some (.lst (ns.map V.int)) := by
  obtain ⟨q, vs, e, h1, h2⟩ := lst_of h
  rw [dpa_ofInts h2] at h1
  exact ⟨q, e, h1⟩
theorem tup_ints {K : PySem.W.Frag} {W : Hp} {v : V} {ns : List Int} (h : SVr K W v (vT (ns.map .int))) : ∃ q, v = .ref q ∧ Rd W q (.tup (ns.map V.int)) := by
  obtain ⟨q, vs, e, h1, h2⟩ := tup_of h
  rw [dpa_ofInts h2] at h1
  exact ⟨q, e, h1⟩
/-- a call of a built-in by name on one argument, from the values' rule -/
theorem x_cb1 {id : String} {x : Str} {rr : List V → Hp → VK → Prop} {r z : SV} (hcr : CallR X (.builtin id) rr) (hv : bootBuiltins x = some (.builtin id)) (hn : x ≠ "__name__") (hdb : (x == ("__debug__" : Str)) = false) (hm : X.mg x = none) (ha : EX X a E O r)
    (h : ∀ v H, OwnOk X.K O H → SVr X.K (vis O H) v r → ∀ Q, Kont X.K O H (is1 z O) Q → rr [v] H Q) (hg : Gl X x) (hs : starEach [a] X.env = (false, eval a X.env) :: starEach [] X.env) (hpl : (backTo pos (starEach [] X.env)).any (·.1) = false) :
    EX X (.Call (.Name x p) [a] [] pos) E O z := g_cb hcr hg hm hv (a_cons ha a_nil hs) (fun vs H ok hvs Q k => by
    cases hvs with
    | cons z1 z2 =>
      cases z2
      exact h _ H ok z1 Q k) hn hdb hs hpl
theorem x_minL {ns : List Int} {m : Int} (hm : X.mg "min" = none) (ha : EX X a E O (vL (ns.map .int))) (h1 : m ∈ ns) (h2 : ∀ y ∈ ns, m ≤ y) (hg : Gl X "min" := by rfl) (hc : X.calm = true := by rfl) (hs : starEach [a] X.env = (false, eval a X.env) :: starEach [] X.env := by rfl) (hpl : (backTo pos (starEach [] X.env)).any (·.1) = false := by rfl) :
    EX X (.Call (.Name "min" p) [a] [] pos) E O (vI m) := x_cb1 (cr_min hc) PyProof.Rows.boot_min (by decide) (by decide) hm ha (fun v H ok hv Q k => by
    obtain ⟨q, rfl, h3⟩ := lst_ints hv
    refine ⟨q, ns, rfl, SqL.of (vis_sub _ _ _ _ h3), List.length_pos_of_mem h1, fun m' h4 h5 => ?_⟩
    have e : m' = m := Int.le_antisymm (h5 m h1) (h2 m' h4)
    subst e
    exact k _ H _ _ ⟨rfl, rfl⟩ (.refl ok) (.int _)) hg hs hpl
theorem x_maxL {ns : List Int} {m : Int} (hm : X.mg "max" = none) (ha : EX X a E O (vL (ns.map .int))) (h1 : m ∈ ns) (h2 : ∀ y ∈ ns, y ≤ m) (hg : Gl X "max" := by rfl) (hc : X.calm = true := by rfl) (hs : starEach [a] X.env = (false, eval a X.env) :: starEach [] X.env := by rfl) (hpl : (backTo pos (starEach [] X.env)).any (·.1) = false := by rfl) :
    EX X (.Call (.Name "max" p) [a] [] pos) E O (vI m) := x_cb1 (cr_max hc) PyProof.Rows.boot_max (by decide) (by decide) hm ha (fun v H ok hv Q k => by
    obtain ⟨q, rfl, h3⟩ := lst_ints hv
    refine ⟨q, ns, rfl, SqL.of (vis_sub _ _ _ _ h3), List.length_pos_of_mem h1, fun m' h4 h5 => ?_⟩
    have e : m' = m := Int.le_antisymm (h2 m' h4) (h5 m h1)
    subst e
    exact k _ H _ _ ⟨rfl, rfl⟩ (.refl ok) (.int _)) hg hs hpl
theorem x_sumL {ns : List Int} (hm : X.mg "sum" = none) (ha : EX X a E O (vL (ns.map .int))) (hg : Gl X "sum" := by rfl) (hc : X.calm = true := by rfl) (hs : starEach [a] X.env = (false, eval a X.env) :: starEach [] X.env := by rfl) (hpl : (backTo pos (starEach [] X.env)).any (·.1) = false := by rfl) :
    EX X (.Call (.Name "sum" p) [a] [] pos) E O (vI ns.sum) := x_cb1 (cr_sum hc) PyProof.Rows.boot_sum (by decide) (by decide) hm ha (fun v H ok hv Q k => by
    obtain ⟨q, rfl, h3⟩ := lst_ints hv
    exact ⟨q, ns, rfl, SqL.of (vis_sub _ _ _ _ h3), k _ H _ _ ⟨rfl, rfl⟩ (.refl ok) (.int _)⟩) hg hs hpl
def rSumT (K : PySem.W.Frag) : List V → Hp → VK → Prop := fun vs H Q => ∃ (q : Addr) (ns : List Int), vs = [V.ref q] ∧ SqT K H q (ns.map V.int) ∧ Q (.int ns.sum) H
theorem cr_sumT (hc : X.calm = true) : CallR X (.builtin "sum") (rSumT X.K) := by
  intro pins s σ H vs us Q I r ⟨q, ns, e0, hq, z⟩
  subst e0
  rw [Vals.ref1 r]
  obtain ⟨its, rv, hT, _⟩ := I.tuple hq
  have hi : IntsAre its ns := rv.ints
  obtain ⟨xs, hx⟩ := hi.allInts.items
  have hn : numsOf its = ns := hi.numsOf
  rw [show its = its.toArray.toList from rfl, hx, nums_intItems] at hn
  rw [hx] at hT
  refine PySem.W.ktm_sumG (I.ok.hd hc) hT fun h' tk t' hk => ?_
  rw [preSum_eq, List.take_of_length_le (by simp), hn]
  exact ⟨.int ns.sum, H, I.kept hk, ⟨_, rfl⟩, z⟩
theorem x_sumT {ns : List Int} (hm : X.mg "sum" = none) (ha : EX X a E O (vT (ns.map .int))) (hg : Gl X "sum" := by rfl) (hc : X.calm = true := by rfl) (hs : starEach [a] X.env = (false, eval a X.env) :: starEach [] X.env := by rfl) (hpl : (backTo pos (starEach [] X.env)).any (·.1) = false := by rfl) :
    EX X (.Call (.Name "sum" p) [a] [] pos) E O (vI ns.sum) := x_cb1 (cr_sumT hc) PyProof.Rows.boot_sum (by decide) (by decide) hm ha (fun v H ok hv Q k => by
    obtain ⟨q, rfl, h3⟩ := tup_ints hv
    exact ⟨q, ns, rfl, .inl (rd_sub (vis_sub _ _) h3), k _ H _ _ ⟨rfl, rfl⟩ (.refl ok) (.int _)⟩) hg hs hpl
theorem x_min2 {i j : Int} (hm : X.mg "min" = none) (ha : EX X a E O (vI i)) (hb : EX X b E O (vI j)) (hg : Gl X "min" := by rfl) (hc : X.calm = true := by rfl) (hs : starEach [a, b] X.env = (false, eval a X.env) :: starEach [b] X.env := by rfl) (hs2 : starEach [b] X.env = (false, eval b X.env) :: starEach [] X.env := by rfl) (hpl : (backTo pos (starEach [b] X.env)).any (·.1) = false := by rfl) :
    EX X (.Call (.Name "min" p) [a, b] [] pos) E O (vI (if j < i then j else i)) := g_cb (call_min2 hc) hg hm PyProof.Rows.boot_min (a_cons ha (a_cons hb a_nil hs2) hs) (fun vs H ok hvs Q k => by
    cases hvs with
    | cons z1 z2 =>
      cases z2 with
      | cons z2 z3 =>
        cases z3
        obtain rfl := int_of z1
        obtain rfl := int_of z2
        exact ⟨i, j, rfl, k _ H _ _ ⟨rfl, rfl⟩ (.refl ok) (.int _)⟩) (by decide) (by decide) hs hpl
theorem x_max2 {i j : Int} (hm : X.mg "max" = none) (ha : EX X a E O (vI i)) (hb : EX X b E O (vI j)) (hg : Gl X "max" := by rfl) (hc : X.calm = true := by rfl) (hs : starEach [a, b] X.env = (false, eval a X.env) :: starEach [b] X.env := by rfl) (hs2 : starEach [b] X.env = (false, eval b X.env) :: starEach [] X.env := by rfl) (hpl : (backTo pos (starEach [b] X.env)).any (·.1) = false := by rfl) :
    EX X (.Call (.Name "max" p) [a, b] [] pos) E O (vI (if j > i then j else i)) := g_cb (call_max2 hc) hg hm PyProof.Rows.boot_max (a_cons ha (a_cons hb a_nil hs2) hs) (fun vs H ok hvs Q k => by
    cases hvs with
    | cons z1 z2 =>
      cases z2 with
      | cons z2 z3 =>
        cases z3
        obtain rfl := int_of z1
        obtain rfl := int_of z2
        exact ⟨i, j, rfl, k _ H _ _ ⟨rfl, rfl⟩ (.refl ok) (.int _)⟩) (by decide) (by decide) hs hpl
/-! ### x in xs, of ints -/
theorem inV_ints (k : Int) (ns : List Int) : inV (.int k) (ns.map V.int) = decide (k ∈ ns) := by
  unfold inV
  rw [List.any_map]
  induction ns with
  | nil => rfl
  | cons a r ih =>
    rw [List.any_cons, ih]
    show (eqV (V.int a) (V.int k) || _) = _
    have : eqV (V.int a) (V.int k) = decide (k = a) := by
      show (a == k) = _
      rw [Bool.beq_eq_decide_eq]
      by_cases h : a = k
      · simp [h]
      · have : ¬ k = a := fun z => h z.symm
        simp [h, this]
    rw [this]
    simp [List.mem_cons]
theorem flat_ints (ns : List Int) : (ns.map V.int).all flatV = true := by
  rw [List.all_map, List.all_eq_true]
  intro x _
  rfl
theorem c_inL {k : Int} {ns : List Int} (ha : EX X a E O (vI k)) (hb : EX X b E O (vL (ns.map .int))) : CX1 X .In a b E O (decide (k ∈ ns)) :=
  c_op op_in_seq ha hb fun x y H ok hx hy Q q => by
    obtain rfl := int_of hx
    obtain ⟨l, rfl, h1⟩ := lst_ints hy
    refine ⟨l, _, rfl, .inl (SqL.of (vis_sub _ _ _ _ h1)), rfl, flat_ints ns, q _ H _ _ ⟨rfl, rfl⟩ (.refl ok) ?_⟩
    rw [inV_ints]
    exact .bl _
theorem c_inT {k : Int} {ns : List Int} (ha : EX X a E O (vI k)) (hb : EX X b E O (vT (ns.map .int))) : CX1 X .In a b E O (decide (k ∈ ns)) :=
  c_op op_in_seq ha hb fun x y H ok hx hy Q q => by
    obtain rfl := int_of hx
    obtain ⟨l, rfl, h1⟩ := tup_ints hy
    refine ⟨l, _, rfl, .inr (.inl (rd_sub (vis_sub _ _) h1)), rfl, flat_ints ns, q _ H _ _ ⟨rfl, rfl⟩ (.refl ok) ?_⟩
    rw [inV_ints]
    exact .bl _
theorem c_niL {k : Int} {ns : List Int} (ha : EX X a E O (vI k)) (hb : EX X b E O (vL (ns.map .int))) : CX1 X .NotIn a b E O (!decide (k ∈ ns)) :=
  c_op op_notIn_seq ha hb fun x y H ok hx hy Q q => by
    obtain rfl := int_of hx
    obtain ⟨l, rfl, h1⟩ := lst_ints hy
    refine ⟨l, _, rfl, .inl (SqL.of (vis_sub _ _ _ _ h1)), rfl, flat_ints ns, q _ H _ _ ⟨rfl, rfl⟩ (.refl ok) ?_⟩
    rw [inV_ints]
    exact .bl _
theorem c_niT {k : Int} {ns : List Int} (ha : EX X a E O (vI k)) (hb : EX X b E O (vT (ns.map .int))) : CX1 X .NotIn a b E O (!decide (k ∈ ns)) :=
  c_op op_notIn_seq ha hb fun x y H ok hx hy Q q => by
    obtain rfl := int_of hx
    obtain ⟨l, rfl, h1⟩ := tup_ints hy
    refine ⟨l, _, rfl, .inr (.inl (rd_sub (vis_sub _ _) h1)), rfl, flat_ints ns, q _ H _ _ ⟨rfl, rfl⟩ (.refl ok) ?_⟩
    rw [inV_ints]
    exact .bl _
/-! ### enumerate -/
theorem it_enum {elts : List Expr} {kk : Nat} {tpos : Pos} {ds : List PyData} (hm : X.mg "enumerate" = none) (ha : EX X a E O (vL ds)) (hg : Gl X "enumerate" := by rfl) (hs : starEach [a] X.env = [(false, eval a X.env)] := by rfl) :
    IT X (.Tuple elts kk tpos) (.Call (.Name "enumerate" p) [a] [] pos) E O (List.range ds.length) (fun i => vT [.int (i : Nat), ds.getD i .none]) := ⟨_, pi_enum hg hm WA.pa hs, fun σ H R Q q => by
  refine (a_cons ha a_nil hs : EA X [a] E O [_]) σ H R _ fun us H1 rs O1 ⟨e1, e2⟩ s z1 => ?_
  subst e1; subst e2
  cases z1 with
  | cons z1 z2 =>
    cases z2
    obtain ⟨l, vs, rfl, h1, h2⟩ := lst_of z1
    have hl := dpa_len h2
    refine ⟨l, vs, rfl, SqL.of (vis_sub _ _ _ _ h1), q _ H1 s ⟨fun i O' H' s1 hi => ?_, fun i O' H' x H2 s1 hi y => ?_, fun O' H' s1 => ?_⟩⟩
    · have hi' : i < vs.length := by rw [hl]; simpa using hi
      exact ⟨vs, vs[i], SqL.of (vis_sub _ _ _ _ (s1.vis _ _ h1)), List.getElem?_eq_getElem _⟩
    · obtain ⟨T, x', rfl, hT, rfl, y⟩ := y
      have hv := y vs (SqL.of (vis_sub _ _ _ _ (s1.vis _ _ h1)))
      obtain ⟨d, h3, h4⟩ := dpa_atV h2 hv
      have s2 := Stp.laid (o := .tup [.int (i : Nat), x']) s1.ok hT
      refine ⟨s2, ?_⟩
      have e1 : (List.range ds.length)[i] = i := List.getElem_range _
      rw [e1, List.getD_eq_getElem?_getD, h3]
      exact .tup (.inl (vis_laid s1.ok hT)) (.cons (.int _) (.cons (dp_sub s2.vis _ _ (dp_sub s1.vis _ _ h4)) .nil))
    · refine ⟨vs, SqL.of (vis_sub _ _ _ _ (s1.vis _ _ h1)), ?_⟩
      rw [List.length_range, hl]
      exact Nat.le_refl _⟩
/-! ### slices -/
def cutD (ds : List PyData) (lo hi : Option Int) : List PyData := (ds.drop (HT.sIx ds.length 0 lo)).take (HT.sIx ds.length ds.length hi - HT.sIx ds.length 0 lo)
theorem dq_cut {W : Hp} {vs : List V} {ds : List PyData} (h : DqAll W vs ds) (lo hi : Option Int) : DqAll W (cutV vs lo hi) (cutD ds lo hi) := by
  unfold cutV cutD
  rw [dpa_len h]
  exact dpa_take _ (dpa_drop _ h)
inductive EO (X : Cx) (E : En) (O : Own) : Option Expr → Option Int → Prop
  | none : EO X E O none none
  | some {e : Expr} {i : Int} : EX X e E O (vI i) → EO X E O (some e) (some i)
theorem EO.run {e : Option Expr} {i : Option Int} (h : EO X E O e i) : ∃ t, PO X e t ∧ ∀ σ H, Rep X.K E O σ H → ∀ Q : Option Int → Hp → Prop, (∀ H', Stp X.K O H O H' → Q i H') → t σ H Q := by
  cases h with
  | none => exact ⟨_, po_none, fun σ H R Q q => q H (.refl R.own)⟩
  | some h => exact ⟨_, po_some WE.pe, fun σ H R Q q => h σ H R _ fun v H' r O' ⟨e1, e2⟩ s z => by
      subst e1; subst e2
      exact ⟨_, int_of z, q H' s⟩⟩
theorem x_sl {rr : V → Option Int → Option Int → Hp → VK → Prop} {lo hi : Option Expr} {i j : Option Int} {r z : SV} (hr : SlR X rr) (ha : EX X a E O r) (hl : EO X E O lo i) (hh : EO X E O hi j)
    (h : ∀ v H, OwnOk X.K O H → SVr X.K (vis O H) v r → ∀ Q, Kont X.K O H (is1 z O) Q → rr v i j H Q) : EX X (.Subscript a (.Slice lo hi none p) pos) E O z := fun σ H R Q k => by
  obtain ⟨tl, pl, ql⟩ := hl.run
  obtain ⟨th, ph, qh⟩ := hh.run
  refine we_of (pe_slice hr WE.pe pl ph) ?_
  refine ha σ H R _ fun v H1 r1 O1 ⟨e1, e2⟩ s1 z1 => ?_
  subst e1; subst e2
  refine ql σ H1 (R.step s1) _ fun H2 s2 => ?_
  refine qh σ H2 (R.step (s1.trans s2)) _ fun H3 s3 => ?_
  exact h v H3 s3.ok ((s2.trans s3).sv z1) Q fun v' H' r' O' f s z => k v' H' r' O' f (((s1.trans s2).trans s3).trans s) z
theorem x_slL {ds : List PyData} {lo hi : Option Expr} {i j : Option Int} (ha : EX X a E O (vL ds)) (hl : EO X E O lo i) (hh : EO X E O hi j) : EX X (.Subscript a (.Slice lo hi none p) pos) E O (vL (cutD ds i j)) :=
  x_sl sl_list ha hl hh fun v H ok hv Q k => by
    obtain ⟨q, vs, rfl, h1, h2⟩ := lst_of hv
    refine ⟨q, vs, rfl, SqL.of (vis_sub _ _ _ _ h1), fun q' hq => ?_⟩
    have s2 := Stp.laid (o := .lst (cutV vs i j)) ok hq
    exact k _ _ _ _ ⟨rfl, rfl⟩ s2 (.lst (vis_laid ok hq) (dq_cut (dpAll_sub s2.vis _ _ h2) i j))
theorem x_slT {ds : List PyData} {lo hi : Option Expr} {i j : Option Int} (ha : EX X a E O (vT ds)) (hl : EO X E O lo i) (hh : EO X E O hi j) : EX X (.Subscript a (.Slice lo hi none p) pos) E O (vT (cutD ds i j)) :=
  x_sl sl_tupA ha hl hh fun v H ok hv Q k => by
    obtain ⟨q, vs, rfl, h1, h2⟩ := tup_of hv
    refine ⟨q, vs, rfl, .inl (rd_sub (vis_sub _ _) h1), fun ⟨w1, w2⟩ => ?_, fun _ q' hq => ?_⟩
    · refine k _ H _ _ ⟨rfl, rfl⟩ (.refl ok) ?_
      have e : cutD ds i j = ds := by
        unfold cutD
        rw [dpa_len h2] at w1 w2
        rw [w1, w2, Nat.sub_zero, List.drop_zero, List.take_length]
      rw [e]
      exact .tup h1 h2
    · have s2 := Stp.laid (o := .tup (cutV vs i j)) ok hq
      exact k _ _ _ _ ⟨rfl, rfl⟩ s2 (.tup (.inl (vis_laid ok hq)) (dq_cut (dpAll_sub s2.vis _ _ h2) i j))
/-! ### sorted(set(..)) -/
theorem set_few {w : World} {h : Heap} {q : Addr} {ns D : List Int} {n : Nat} (R : SetR w h q (fun j => decide (j ∈ ns)) n) (hD : ∀ k ∈ ns, k ∈ D) : n ≤ D.length := by
  obtain ⟨o, es, ep, t, _, _, _, _, nd, hm, _, _, hn, _, _⟩ := R
  have hsub : ∀ k ∈ es.toList.map keyOf, k ∈ D := fun k hk => hD k (by simpa using (hm k).mpr hk)
  have key : ∀ (l D : List Int), l.Nodup → (∀ k ∈ l, k ∈ D) → l.length ≤ D.length := by
    intro l
    induction l with
    | nil => intro D _ _; exact Nat.zero_le _
    | cons a r ih =>
      intro D hnd hs
      have h1 := List.nodup_cons.mp hnd
      have h2 := ih (D.erase a) h1.2 fun k hk => (List.mem_erase_of_ne (fun e : k = a => h1.1 (by rw [← e]; exact hk))).mpr (hs k (List.mem_cons_of_mem _ hk))
      rw [List.length_erase_of_mem (hs a List.mem_cons_self)] at h2
      have := List.length_pos_of_mem (hs a List.mem_cons_self)
      rw [List.length_cons]
      omega
  have := key _ D nd hsub
  rw [List.length_map, Array.length_toList, hn] at this
  exact this
def rSetT (K : PySem.W.Frag) (w : World) : List V → Hp → VK → Prop := fun vs H Q => ∃ (q : Addr) (ns D : List Int), vs = [V.ref q] ∧ SqT K H q (ns.map V.int) ∧ ns.length ≤ 4000 ∧ (∀ k ∈ ns, k ∈ D) ∧
  ∀ q' n, H q' = none → n ≤ D.length → Q (.ref q') (upd H q' (SetO w q' (fun j => decide (j ∈ ns)) n))
theorem cr_setT (hc : X.calm = true) : CallR X (.type "set") (rSetT X.K X.w) := by
  intro pins s σ H vs us Q I r ⟨q, ns, D, e0, hq, hz, hD, z⟩
  subst e0
  rw [Vals.ref1 r]
  obtain ⟨its, rv, hT, _⟩ := I.tuple hq
  refine call_set_tupI ns (I.ok.hd hc) hT rv.ints (by unfold scanBound; omega) fun h' tk n R _ hk => ?_
  have hf : H s.heap.objs.size = none := I.hok.fresh (Nat.le_refl _)
  exact ⟨.ref s.heap.objs.size, _, I.laid (t' := tk) hk (Nat.le_refl _) (setO_new R), rfl, z _ n hf (set_few R hD)⟩
theorem x_sortedSetT {ns D : List Int} (hm : X.mg "sorted" = none) (hm2 : X.mg "set" = none) (ha : EX X a E O (vT (ns.map .int))) (hz : ns.length ≤ 4000) (hD : ∀ k, k ∈ D ↔ k ∈ ns) (hp : D.Pairwise (· < ·)) (hD2 : D.length < 64) (hg : Gl X "sorted" := by rfl) (hg2 : Gl X "set" := by rfl) (hc : X.calm = true := by rfl) (hs : starEach [a] X.env = (false, eval a X.env) :: starEach [] X.env := by rfl) (hpl2 : (backTo pos' (starEach [] X.env)).any (·.1) = false := by rfl)
    (hs2 : starEach [.Call (.Name "set" p') [a] [] pos'] X.env = (false, eval (.Call (.Name "set" p') [a] [] pos') X.env) :: starEach [] X.env := by rfl) (hpl : (backTo pos (starEach [] X.env)).any (·.1) = false := by rfl) :
    EX X (.Call (.Name "sorted" p) [.Call (.Name "set" p') [a] [] pos'] [] pos) E O (vL (D.map .int)) := fun σ H R Q k =>
  we_of (pe_callB (cr_sortedSet hc) hg hm PyProof.Rows.boot_sorted (pa_cons (pe_callTy (cr_setT hc) hg2 hm2 PyProof.Rows.boot_set WA.pa (by decide) (by decide) hs hpl2) pa_nil hs2) (by decide) (by decide) hs2 hpl) (by
  refine (a_cons ha a_nil hs : EA X [a] E O [_]) σ H R _ fun us H1 rs O1 ⟨e1, e2⟩ s1 z1 => ?_
  subst e1; subst e2
  cases z1 with
  | cons z1 z2 =>
    cases z2
    obtain ⟨l, rfl, h1⟩ := tup_ints z1
    refine ⟨l, ns, D, rfl, .inl (rd_sub (vis_sub _ _) h1), hz, fun x hx => (hD x).mpr hx, fun q' n hq hn => ?_⟩
    have s2 := Stp.laid (o := SetO X.w q' (fun j => decide (j ∈ ns)) n) s1.ok hq
    refine ⟨q', _, n, rfl, upd_same, by omega, fun ns' p2 w1 w2 _ hp2 => ?_⟩
    have e : ns' = D := by
      refine List.Perm.eq_of_pairwise (le := (· < ·)) (fun a b _ _ h1 h2 => absurd (Int.lt_trans h1 h2) (Int.lt_irrefl _)) w1 hp ?_
      refine (List.perm_ext_iff_of_nodup (w1.imp fun h e => ?_) (hp.imp fun h e => ?_)).mpr fun x => ?_
      · exact Int.lt_irrefl _ (e ▸ h)
      · exact Int.lt_irrefl _ (e ▸ h)
      · rw [w2, hD]
        simp
    subst e
    have s3 := Stp.laid (o := .lst (ns'.map V.int)) s2.ok hp2
    exact k _ _ _ _ ⟨rfl, rfl⟩ ((s1.trans s2).trans s3) (.lst (vis_laid s2.ok hp2) dpa_ints))
end
end Py
namespace Py
open PySem PySem.Spec PyProof.Rows L2
/-! natural numbers -/
abbrev nD (n : Nat) : PyData := .int n
abbrev iL (l : List Nat) : List Int := l.map fun (n : Nat) => (n : Int)
theorem nD_iL (l : List Nat) : l.map nD = (iL l).map .int := by rw [List.map_map]; rfl
theorem iL_mem {l : List Nat} {k : Int} : k ∈ iL l ↔ ∃ n ∈ l, (n : Int) = k := List.mem_map
theorem iL_memN {l : List Nat} {k : Nat} : (k : Int) ∈ iL l ↔ k ∈ l := by
  rw [iL_mem]
  constructor
  · rintro ⟨n, h, e⟩
    have : n = k := by omega
    rwa [← this]
  · exact fun h => ⟨k, h, rfl⟩
theorem beq_natC (n m : Nat) : ((n : Int) == (m : Int)) = (n == m) := by
  simp only [Bool.beq_eq_decide_eq]
  congr 1
  simp only [eq_iff_iff]
  omega
theorem iL_count (l : List Nat) (k : Nat) : (iL l).count (k : Int) = l.count k := by
  induction l with
  | nil => rfl
  | cons a r ih =>
    have e : iL (a :: r) = (a : Int) :: iL r := rfl
    rw [e, List.count_cons, List.count_cons, ih]
    congr 1
    by_cases h : a = k
    · simp [h]
    · have : ¬ (a : Int) = (k : Int) := by omega
      simp [h, this]
theorem iL_idxOf (l : List Nat) (k : Nat) : (iL l).idxOf (k : Int) = l.idxOf k := by
  induction l with
  | nil => rfl
  | cons a r ih =>
    have e : iL (a :: r) = (a : Int) :: iL r := rfl
    rw [e, List.idxOf_cons, List.idxOf_cons, ih]
    rw [beq_natC]
theorem iL_sum (l : List Nat) : (iL l).sum = (l.sum : Nat) := by
  induction l with
  | nil => rfl
  | cons a r ih =>
    have e : iL (a :: r) = (a : Int) :: iL r := rfl
    rw [e, List.sum_cons, List.sum_cons, ih]
    omega
section
variable {X : Cx} {a b c e o : Expr} {es : List Expr} {E : En} {O : Own} {pos p p' pos' : Pos}
/-- a def that hands back an exact tuple -/
def pureT (Rl : List PyData → List PyData → Prop) : FSpec := fun rs O Φ => ∃ ds fs, rs = ds.map .d ∧ Rl ds fs ∧ Φ (.t fs) O
theorem y_callT {x : Str} {k : Nat} {Rl : List PyData → List PyData → Prop} {ds fs : List PyData} (F : Fn X.prog X.w X.K X.mg X.base x k (pureT Rl)) (hr : Room k X.A) (ha : EAd X (e :: es) E O ds) (hT : Rl ds fs) (hg : Gl X x := by rfl) (hdb : (x == ("__debug__" : Str)) = false := by decide) (he : starEach (e :: es) X.env = (false, eval e X.env) :: starEach es X.env := by rfl) (hpl : (backTo pos (starEach es X.env)).any (·.1) = false := by rfl) :
    EX X (.Call (.Name x p) (e :: es) [] pos) E O (.t fs) := g_call F hr ha ⟨ds, fs, rfl, hT, rfl, rfl⟩ hg hdb he hpl
theorem x_sortedSetN {ns D : List Nat} (hm : X.mg "sorted" = none) (hm2 : X.mg "set" = none) (ha : EX X a E O (vT (ns.map nD))) (hz : ns.length ≤ 4000) (hD : ∀ k, k ∈ D ↔ k ∈ ns) (hp : D.Pairwise (· < ·)) (hD2 : D.length < 64) (hg : Gl X "sorted" := by rfl) (hg2 : Gl X "set" := by rfl) (hc : X.calm = true := by rfl) (hs : starEach [a] X.env = (false, eval a X.env) :: starEach [] X.env := by rfl) (hpl2 : (backTo pos' (starEach [] X.env)).any (·.1) = false := by rfl)
    (hs2 : starEach [.Call (.Name "set" p') [a] [] pos'] X.env = (false, eval (.Call (.Name "set" p') [a] [] pos') X.env) :: starEach [] X.env := by rfl) (hpl : (backTo pos (starEach [] X.env)).any (·.1) = false := by rfl) :
    EX X (.Call (.Name "sorted" p) [.Call (.Name "set" p') [a] [] pos'] [] pos) E O (vL (D.map nD)) := by
  rw [nD_iL] at ha ⊢
  refine x_sortedSetT hm hm2 ha (by rw [List.length_map]; exact hz) (fun k => ?_) ?_ (by rw [List.length_map]; exact hD2) hg hg2 hc hs hpl2 hs2 hpl
  · rw [iL_mem, iL_mem]
    constructor
    · rintro ⟨n, h, e⟩
      exact ⟨n, (hD n).mp h, e⟩
    · rintro ⟨n, h, e⟩
      exact ⟨n, (hD n).mpr h, e⟩
  · rw [List.pairwise_map]
    exact hp.imp fun {a b} h => by omega
theorem x_countN {ns : List Nat} {k : Nat} (ha : EX X a E O (.t (ns.map nD))) (hb : EX X b E O (vI k)) (hbase : attributeBase a "count" X.env (eval a X.env) = eval a X.env := by rfl)
    (hfew : ((backTo pos (starEach [b] X.env)).all (fun x => !x.1) && (backToKw pos (keywordEach [] X.env)).all (fun x => x.1.isSome)
      && decide (([b] : List Expr).length + ([] : List Keyword).length + (if ([] : List Keyword).isEmpty then 0 else 1) < 30)) = true := by rfl)
    (hline : (p.endLine == pos.line) = true := by rfl) (hs : starEach [b] X.env = (false, eval b X.env) :: starEach [] X.env := by rfl) (hplain : (backTo pos (starEach [] X.env)).any (·.1) = false := by rfl) :
    EX X (.Call (.Attribute a "count" p) [b] [] pos) E O (vI (ns.count k : Nat)) := by
  rw [nD_iL] at ha
  rw [← iL_count]
  exact x_countT ha hb hbase hfew hline hs hplain
theorem x_indexN {ns : List Nat} {k : Nat} (ha : EX X a E O (.t (ns.map nD))) (hb : EX X b E O (vI k)) (hk : k ∈ ns) (hbase : attributeBase a "index" X.env (eval a X.env) = eval a X.env := by rfl)
    (hfew : ((backTo pos (starEach [b] X.env)).all (fun x => !x.1) && (backToKw pos (keywordEach [] X.env)).all (fun x => x.1.isSome)
      && decide (([b] : List Expr).length + ([] : List Keyword).length + (if ([] : List Keyword).isEmpty then 0 else 1) < 30)) = true := by rfl)
    (hline : (p.endLine == pos.line) = true := by rfl) (hs : starEach [b] X.env = (false, eval b X.env) :: starEach [] X.env := by rfl) (hplain : (backTo pos (starEach [] X.env)).any (·.1) = false := by rfl) :
    EX X (.Call (.Attribute a "index" p) [b] [] pos) E O (vI (ns.idxOf k : Nat)) := by
  rw [nD_iL] at ha
  rw [← iL_idxOf]
  exact x_indexT ha hb (iL_memN.mpr hk) hbase hfew hline hs hplain
theorem x_sumTN {ns : List Nat} (hm : X.mg "sum" = none) (ha : EX X a E O (vT (ns.map nD))) (hg : Gl X "sum" := by rfl) (hc : X.calm = true := by rfl) (hs : starEach [a] X.env = (false, eval a X.env) :: starEach [] X.env := by rfl) (hpl : (backTo pos (starEach [] X.env)).any (·.1) = false := by rfl) :
    EX X (.Call (.Name "sum" p) [a] [] pos) E O (vI (ns.sum : Nat)) := by
  rw [nD_iL] at ha
  rw [← iL_sum]
  exact x_sumT hm ha hg hc hs hpl
theorem x_sumLN {ns : List Nat} (hm : X.mg "sum" = none) (ha : EX X a E O (vL (ns.map nD))) (hg : Gl X "sum" := by rfl) (hc : X.calm = true := by rfl) (hs : starEach [a] X.env = (false, eval a X.env) :: starEach [] X.env := by rfl) (hpl : (backTo pos (starEach [] X.env)).any (·.1) = false := by rfl) :
    EX X (.Call (.Name "sum" p) [a] [] pos) E O (vI (ns.sum : Nat)) := by
  rw [nD_iL] at ha
  rw [← iL_sum]
  exact x_sumL hm ha hg hc hs hpl
theorem x_minN {ns : List Nat} {m : Nat} (hm : X.mg "min" = none) (ha : EX X a E O (vL (ns.map nD))) (h1 : m ∈ ns) (h2 : ∀ y ∈ ns, m ≤ y) (hg : Gl X "min" := by rfl) (hc : X.calm = true := by rfl) (hs : starEach [a] X.env = (false, eval a X.env) :: starEach [] X.env := by rfl) (hpl : (backTo pos (starEach [] X.env)).any (·.1) = false := by rfl) :
    EX X (.Call (.Name "min" p) [a] [] pos) E O (vI m) := by
  rw [nD_iL] at ha
  refine x_minL hm ha (iL_memN.mpr h1) (fun y hy => ?_) hg hc hs hpl
  obtain ⟨n, h3, rfl⟩ := iL_mem.mp hy
  have := h2 n h3
  omega
theorem x_maxN {ns : List Nat} {m : Nat} (hm : X.mg "max" = none) (ha : EX X a E O (vL (ns.map nD))) (h1 : m ∈ ns) (h2 : ∀ y ∈ ns, y ≤ m) (hg : Gl X "max" := by rfl) (hc : X.calm = true := by rfl) (hs : starEach [a] X.env = (false, eval a X.env) :: starEach [] X.env := by rfl) (hpl : (backTo pos (starEach [] X.env)).any (·.1) = false := by rfl) :
    EX X (.Call (.Name "max" p) [a] [] pos) E O (vI m) := by
  rw [nD_iL] at ha
  refine x_maxL hm ha (iL_memN.mpr h1) (fun y hy => ?_) hg hc hs hpl
  obtain ⟨n, h3, rfl⟩ := iL_mem.mp hy
  have := h2 n h3
  omega
theorem x_sortedN {ns ns' : List Nat} (hm : X.mg "sorted" = none) (ha : EX X a E O (vL (ns.map nD))) (hp : ns'.Perm ns) (hs' : ns'.Pairwise (· ≤ ·)) (hg : Gl X "sorted" := by rfl) (hs : starEach [a] X.env = (false, eval a X.env) :: starEach [] X.env := by rfl) (hpl : (backTo pos (starEach [] X.env)).any (·.1) = false := by rfl) :
    EX X (.Call (.Name "sorted" p) [a] [] pos) E O (vL (ns'.map nD)) := by
  rw [nD_iL] at ha ⊢
  refine x_sortedI hm ha (hp.map _) ?_ hg hs hpl
  rw [List.pairwise_map]
  exact hs'.imp fun {a b} h => by omega
theorem c_inTN {k : Nat} {ns : List Nat} (ha : EX X a E O (vI k)) (hb : EX X b E O (vT (ns.map nD))) : CX1 X .In a b E O (decide (k ∈ ns)) := by
  rw [nD_iL] at hb
  exact (c_inT ha hb).cast (decide_eq_decide.mpr iL_memN)
theorem c_niTN {k : Nat} {ns : List Nat} (ha : EX X a E O (vI k)) (hb : EX X b E O (vT (ns.map nD))) : CX1 X .NotIn a b E O (!decide (k ∈ ns)) := by
  rw [nD_iL] at hb
  exact (c_niT ha hb).cast (congrArg _ (decide_eq_decide.mpr iL_memN))
theorem c_inLN {k : Nat} {ns : List Nat} (ha : EX X a E O (vI k)) (hb : EX X b E O (vL (ns.map nD))) : CX1 X .In a b E O (decide (k ∈ ns)) := by
  rw [nD_iL] at hb
  exact (c_inL ha hb).cast (decide_eq_decide.mpr iL_memN)
theorem c_niLN {k : Nat} {ns : List Nat} (ha : EX X a E O (vI k)) (hb : EX X b E O (vL (ns.map nD))) : CX1 X .NotIn a b E O (!decide (k ∈ ns)) := by
  rw [nD_iL] at hb
  exact (c_niL ha hb).cast (congrArg _ (decide_eq_decide.mpr iL_memN))
theorem c_eqN {n m : Nat} (ha : EX X a E O (vI (n : Int))) (hb : EX X b E O (vI (m : Int))) (hu : X.A.units + 64 < cLine := by assumption) : CX1 X .Eq a b E O (n == m) := (c_eq ha hb hu).cast (beq_natC n m)
theorem c_neN {n m : Nat} (ha : EX X a E O (vI (n : Int))) (hb : EX X b E O (vI (m : Int))) (hu : X.A.units + 64 < cLine := by assumption) : CX1 X .NotEq a b E O (!(n == m)) := (c_ne ha hb hu).cast (by rw [beq_natC])
theorem c_ltN {n m : Nat} (ha : EX X a E O (vI (n : Int))) (hb : EX X b E O (vI (m : Int))) : CX1 X .Lt a b E O (decide (n < m)) := (c_lt ha hb).cast (decide_eq_decide.mpr (by omega))
theorem c_leN {n m : Nat} (ha : EX X a E O (vI (n : Int))) (hb : EX X b E O (vI (m : Int))) : CX1 X .LtE a b E O (decide (n ≤ m)) := (c_le ha hb).cast (decide_eq_decide.mpr (by omega))
theorem c_gtN {n m : Nat} (ha : EX X a E O (vI (n : Int))) (hb : EX X b E O (vI (m : Int))) : CX1 X .Gt a b E O (decide (m < n)) := (c_gt ha hb).cast (decide_eq_decide.mpr (by omega))
theorem c_geN {n m : Nat} (ha : EX X a E O (vI (n : Int))) (hb : EX X b E O (vI (m : Int))) : CX1 X .GtE a b E O (decide (m ≤ n)) := (c_ge ha hb).cast (decide_eq_decide.mpr (by omega))
theorem x_addN {n m : Nat} (ha : EX X a E O (vI (n : Int))) (hb : EX X b E O (vI (m : Int))) : EX X (.BinOp a .Add b pos) E O (vI ((n + m : Nat) : Int)) := EX.cast (x_add ha hb) (by rw [Int.natCast_add])
theorem x_subN {n m : Nat} (ha : EX X a E O (vI (n : Int))) (hb : EX X b E O (vI (m : Int))) (h : m ≤ n) : EX X (.BinOp a .Sub b pos) E O (vI ((n - m : Nat) : Int)) := EX.cast (x_sub ha hb) (by rw [Int.natCast_sub h])
theorem x_mulN {n m : Nat} (ha : EX X a E O (vI (n : Int))) (hb : EX X b E O (vI (m : Int))) (h : m < 2 ^ 63 ∨ n < 2 ^ 63) : EX X (.BinOp a .Mult b pos) E O (vI ((n * m : Nat) : Int)) := EX.cast (x_mul ha hb (h.elim (fun h => .inr (by omega)) fun h => .inl (by omega))) (by rw [Int.natCast_mul])
theorem x_modN {n m : Nat} (ha : EX X a E O (vI (n : Int))) (hb : EX X b E O (vI (m : Int))) (h : 0 < m) : EX X (.BinOp a .Mod b pos) E O (vI ((n % m : Nat) : Int)) := EX.cast (x_mod ha hb (by omega)) (by rw [Int.natCast_emod])
theorem x_fdivN {n m : Nat} (ha : EX X a E O (vI (n : Int))) (hb : EX X b E O (vI (m : Int))) (h : 0 < m) (h2 : m < 1073741824) : EX X (.BinOp a .FloorDiv b pos) E O (vI ((n / m : Nat) : Int)) := EX.cast (x_fdiv ha hb (by omega)) (by rw [Int.natCast_ediv])
theorem x_intN {n : Nat} {j : Nat} : EX X (.Constant (.int (n : Int)) j pos) E O (vI (n : Int)) := x_int
end
end Py
namespace Py
open PySem PySem.Spec PyProof.Rows L2

section
variable {X : Cx} {a b c e o : Expr} {es : List Expr} {E : En} {O : Own} {pos p p' pos' : Pos}
/-! ### sorted(a dict of one's own) -/
theorem kv_keys {W : Hp} : ∀ {vs : List (Key × V)} {kvs : List (Int × PyData)}, KvR W vs kvs → vs.map (·.1) = (kvs.map (·.1)).map Sum.inl
  | _, _, .nil => rfl
  | _, _, .cons ⟨e, _⟩ t => by
    rw [List.map_cons, List.map_cons, List.map_cons, kv_keys t, e]
theorem x_sortedD {q : Addr} {kvs : List (Int × PyData)} {D : List Int} (hm : X.mg "sorted" = none) (ha : EX X a E O (.v (.ref q))) (hO : (q, .dic kvs) ∈ O) (hl : kvs.length < 64) (hD : D.Pairwise (· ≤ ·)) (hP : D.Perm (kvs.map (·.1))) (hg : Gl X "sorted" := by rfl) (hc : X.calm = true := by rfl) (hs : starEach [a] X.env = (false, eval a X.env) :: starEach [] X.env := by rfl) (hpl : (backTo pos (starEach [] X.env)).any (·.1) = false := by rfl) :
    EX X (.Call (.Name "sorted" p) [a] [] pos) E O (vL (D.map .int)) := x_cb1 (call_sortedDI hc) PyProof.Rows.boot_sorted (by decide) (by decide) hm ha (fun v H ok hv Q k => by
    obtain rfl : v = .ref q := hv
    obtain ⟨vs, h1, h2⟩ := ok.is _ hO
    refine ⟨q, vs, kvs.map (·.1), rfl, Rd.of h1, kv_keys h2, by simpa using hl, fun ys p2 w1 w2 hp => ?_⟩
    have e : ys = D := List.Perm.eq_of_pairwise (le := (· ≤ ·)) (fun a b _ _ h1 h2 => Int.le_antisymm h1 h2) w2 hD (w1.trans hP.symm)
    subst e
    have s3 := Stp.laid (o := .lst (ys.map V.int)) ok hp
    exact k _ _ _ _ ⟨rfl, rfl⟩ s3 (.lst (vis_laid ok hp) dpa_ints)) hg hs hpl
/-! ### zip of two tuples -/
theorem it_zipT {elts : List Expr} {kk : Nat} {tpos : Pos} {ds fs : List PyData} (hm : X.mg "zip" = none) (ha : EX X a E O (vT ds)) (hb : EX X b E O (vT fs)) (hl : ds.length = fs.length) (hg : Gl X "zip" := by rfl) (hs : starEach [a, b] X.env = (false, eval a X.env) :: starEach [b] X.env := by rfl) (hs2 : starEach [b] X.env = (false, eval b X.env) :: starEach [] X.env := by rfl) (hpl : (backTo pos (starEach [b] X.env)).any (·.1) = false := by rfl) :
    IT X (.Tuple elts kk tpos) (.Call (.Name "zip" p) [a, b] [] pos) E O (List.range ds.length) (fun i => vT [ds.getD i .none, fs.getD i .none]) := ⟨_, RZ.pi_zipA hg hm WA.pa hs hpl, fun σ H R Q q => by
  refine (a_cons ha (a_cons hb a_nil hs2) hs : EA X [a, b] E O [_, _]) σ H R _ fun us H1 rs O1 ⟨e1, e2⟩ s z1 => ?_
  subst e1; subst e2
  cases z1 with
  | cons z1 z2 =>
    cases z2 with
    | cons z2 z3 =>
      cases z3
      obtain ⟨l, vs, rfl, h1, h2⟩ := tup_of z1
      obtain ⟨l2, us, rfl, h1', h2'⟩ := tup_of z2
      have hv := dpa_len h2
      have hv' := dpa_len h2'
      refine ⟨l, l2, vs, us, rfl, .inr ⟨.inl (rd_sub (vis_sub _ _) h1), .inl (rd_sub (vis_sub _ _) h1'), q _ H1 s ⟨fun i O' H' s1 hi => ?_, fun i O' H' x H2 s1 hi y => ?_, fun O' H' s1 => ?_⟩⟩⟩
      · have hi' : i < ds.length := by simpa using hi
        exact ⟨vs, us, vs[i]'(by omega), us[i]'(by omega), .inl (rd_sub (vis_sub _ _) (rd_sub s1.vis h1)), .inl (rd_sub (vis_sub _ _) (rd_sub s1.vis h1')), List.getElem?_eq_getElem _, List.getElem?_eq_getElem _⟩
      · obtain ⟨T, x', y', rfl, hT, rfl, y1, y2⟩ := y
        have g1 := y1 vs (.inl (rd_sub (vis_sub _ _) (rd_sub s1.vis h1)))
        have g2 := y2 us (.inl (rd_sub (vis_sub _ _) (rd_sub s1.vis h1')))
        obtain ⟨d, h3, h4⟩ := dpa_atV h2 g1
        obtain ⟨d', h3', h4'⟩ := dpa_atV h2' g2
        have s2 := Stp.laid (o := .tup [x', y']) s1.ok hT
        refine ⟨s2, ?_⟩
        have e1 : (List.range ds.length)[i] = i := List.getElem_range _
        rw [e1, List.getD_eq_getElem?_getD, h3, List.getD_eq_getElem?_getD, h3']
        exact .tup (.inl (vis_laid s1.ok hT)) (.cons (dp_sub s2.vis _ _ (dp_sub s1.vis _ _ h4)) (.cons (dp_sub s2.vis _ _ (dp_sub s1.vis _ _ h4')) .nil))
      · refine ⟨vs, us, .inl (rd_sub (vis_sub _ _) (rd_sub s1.vis h1)), .inl (rd_sub (vis_sub _ _) (rd_sub s1.vis h1')), .inl ?_⟩
        rw [List.length_range]
        omega⟩
/-! ### xs.extend(list) -/
theorem g_extend {q : Addr} {ds fs : List PyData} (ha : EX X a E O (.v (.ref q))) (hb : EX X b E O (vL fs)) (hO : (q, .lst ds) ∈ O) (hl : ds.length + fs.length ≤ 100000)
    (p1 : PE X (.Call (.Attribute a "extend" p) [b] [] pos) (tBM X.K "list" rExtend (WE X a) (WA X [b]))) (hs : starEach [b] X.env = (false, eval b X.env) :: starEach [] X.env := by rfl) :
    EG X (.Call (.Attribute a "extend" p) [b] [] pos) E O fun r O' => r = vN ∧ O' = setO O q (.lst (ds ++ fs)) := fun σ H R Q k => we_of p1 (by
  refine ha σ H R _ fun v H1 r1 O1 ⟨e1, e2⟩ s1 z1 => ?_
  subst e1; subst e2
  obtain rfl : v = .ref q := z1
  obtain ⟨vs, h1, h2⟩ := s1.ok.is _ hO
  refine ⟨.inl ⟨rfl, _, SqL.of h1⟩, ?_⟩
  refine (a_cons hb a_nil hs : EA X [b] E _ [vL fs]) σ H1 (R.step s1) _ fun us H2 rs O2 ⟨e1, e2⟩ s2 z2 => ?_
  subst e1; subst e2
  cases z2 with
  | cons z2 z3 =>
    cases z3
    obtain ⟨vs2, h3, h4⟩ := s2.ok.is _ hO
    obtain ⟨l, zs, rfl, h5, h6⟩ := lst_of z2
    refine ⟨q, l, vs2, zs, rfl, rfl, h3, vis_sub _ _ _ _ h5, ?_, ?_⟩
    · rw [dpa_len h4, dpa_len h6]
      exact Nat.le_trans hl (by decide)
    · have s3 := Stp.put (o := .lst (ds ++ fs)) (ho := .lst (vs2 ++ zs)) s2.ok (List.mem_map_of_mem hO) (fun x e => by rw [h3] at e; cases e) ⟨_, upd_same, dpa_app h4 h6⟩
      exact k _ _ _ _ ⟨rfl, rfl⟩ ((s1.trans s2).trans s3) .non)
theorem s_extend {D : PD} {q : Addr} {ds fs : List PyData} (ha : EX X a E O (.v (.ref q))) (hb : EX X b E O (vL fs)) (hO : (q, .lst ds) ∈ O) (hl : ds.length + fs.length ≤ 100000) (h : D.nx E (setO O q (.lst (ds ++ fs))))
    (hbase : attributeBase a "extend" X.env (eval a X.env) = eval a X.env := by rfl)
    (hfew : ((backTo pos (starEach [b] X.env)).all (fun x => !x.1) && (backToKw pos (keywordEach [] X.env)).all (fun x => x.1.isSome)
      && decide (([b] : List Expr).length + ([] : List Keyword).length + (if ([] : List Keyword).isEmpty then 0 else 1) < 30)) = true := by rfl)
    (hline : (p.endLine == pos.line) = true := by rfl) (hplain : (backTo pos (starEach [] X.env)).any (·.1) = false := by rfl) (hs : starEach [b] X.env = (false, eval b X.env) :: starEach [] X.env := by rfl)
    (hw : swapsWith (.Call (.Attribute a "extend" p) [b] [] pos) none pos'.line X.env = pure false := by rfl) :
    SG X (.Expr (.Call (.Attribute a "extend" p) [b] [] pos) pos') E O D := s_exprG (g_extend ha hb hO hl (pe_bm PySem.F.plainAttrs_list PySem.F.slot_list_extend PySem.F.type_list_extend mt_extend WE.pe WA.pa hbase hfew hline hs hplain) hs) (fun r O' ⟨e1, e2⟩ => by subst e2; exact h) hw
/-! ### an if whose ways meet, with own things changed -/
theorem sb_ifO {D : PD} {as bs rest : List Stmt} {k : Bool} (E1 : En) (O1 : Own) (hc : ET X c E O k) (h1 : k = true → SB X as E O ⟨fun E' O' => Ag E1 E' ∧ O' = O1, D.rt, D.bk, D.ct⟩) (h2 : k = false → SB X bs E O ⟨fun E' O' => Ag E1 E' ∧ O' = O1, D.rt, D.bk, D.ct⟩) (h : SB X rest E1 O1 D) : SB X (.If c as bs pos :: rest) E O D := by
  refine sb_cons (s_if hc (fun z => ?_) fun z => ?_)
  · refine fun σ H R D' rf => h1 z σ H R D' ⟨?_, rf.rt, rf.bk, rf.ct⟩
    rintro σ' H' E' O' ⟨ag, rfl⟩ s R'
    exact rf.nx σ' H' E' _ (sb_ag ag h) s R'
  · refine fun σ H R D' rf => h2 z σ H R D' ⟨?_, rf.rt, rf.bk, rf.ct⟩
    rintro σ' H' E' O' ⟨ag, rfl⟩ s R'
    exact rf.nx σ' H' E' _ (sb_ag ag h) s R'
/-! ### a slot's own list is let go -/
theorem dropO_head {q : Addr} {o : OO} (h : q ∉ O.map (·.1)) : dropO ((q, o) :: O) q = O := by
  unfold dropO
  rw [List.filter_cons_of_neg (by simp)]
  refine List.filter_eq_self.mpr fun r hr => ?_
  have : r.1 ≠ q := fun z => h (z ▸ List.mem_map_of_mem hr)
  simpa using this
theorem sb_let (i : Nat) {D : PD} {sts : List Stmt} {q : Addr} {ds : List PyData} {O' : Own} (hO : O = (q, .lst ds) :: O') (hq : q ∉ O'.map (·.1)) (h : SB X sts (E.set i (some (vL ds))) O' D) (hi : E[i]? = some (some (.v (.ref q))) := by rfl) : SB X sts E O D := by
  subst hO
  refine sb_free (q := q) (ds := ds) (E' := E.set i (some (vL ds))) List.mem_cons_self List.length_set (fun j r e => ?_) (by rw [dropO_head hq]; exact h)
  by_cases hj : i = j
  · subst hj
    obtain ⟨hlt, _⟩ := List.getElem?_eq_some_iff.mp hi
    rw [List.getElem?_set_self hlt] at e
    cases e
    exact .inr ⟨hi, rfl⟩
  · rw [List.getElem?_set_ne hj] at e
    exact .inl e
/-! ### min, max of two natural numbers -/
theorem x_minN2 {n m : Nat} (hm : X.mg "min" = none) (ha : EX X a E O (vI (n : Int))) (hb : EX X b E O (vI (m : Int))) (hg : Gl X "min" := by rfl) (hc : X.calm = true := by rfl) (hs : starEach [a, b] X.env = (false, eval a X.env) :: starEach [b] X.env := by rfl) (hs2 : starEach [b] X.env = (false, eval b X.env) :: starEach [] X.env := by rfl) (hpl : (backTo pos (starEach [b] X.env)).any (·.1) = false := by rfl) :
    EX X (.Call (.Name "min" p) [a, b] [] pos) E O (vI (min n m : Nat)) := EX.cast (x_min2 hm ha hb hg hc hs hs2 hpl) (by
    have e : (if (m : Int) < (n : Int) then (m : Int) else (n : Int)) = ((min n m : Nat) : Int) := by split <;> omega
    rw [e])
theorem x_maxN2 {n m : Nat} (hm : X.mg "max" = none) (ha : EX X a E O (vI (n : Int))) (hb : EX X b E O (vI (m : Int))) (hg : Gl X "max" := by rfl) (hc : X.calm = true := by rfl) (hs : starEach [a, b] X.env = (false, eval a X.env) :: starEach [b] X.env := by rfl) (hs2 : starEach [b] X.env = (false, eval b X.env) :: starEach [] X.env := by rfl) (hpl : (backTo pos (starEach [b] X.env)).any (·.1) = false := by rfl) :
    EX X (.Call (.Name "max" p) [a, b] [] pos) E O (vI (max n m : Nat)) := EX.cast (x_max2 hm ha hb hg hc hs hs2 hpl) (by
    have e : (if (m : Int) > (n : Int) then (m : Int) else (n : Int)) = ((max n m : Nat) : Int) := by split <;> omega
    rw [e])
/-! ### [x], one's own -/
theorem g_newL1 {d : PyData} (ha : EX X a E O (.d d)) (hs : starEach [a] X.env = (false, eval a X.env) :: starEach [] X.env := by rfl) : EG X (.List [a] pos) E O fun r O' => ∃ q, r = .v (.ref q) ∧ O' = (q, .lst [d]) :: O ∧ q ∉ O.map (·.1) := fun σ H R Q k => we_of (pe_lst WA.pa) (by
  refine (a_cons ha a_nil hs : EA X [a] E O [.d d]) σ H R _ fun us H1 rs O1 ⟨e1, e2⟩ s1 z1 => ?_
  subst e1; subst e2
  cases z1 with
  | cons z1 z2 =>
    cases z2
    refine ⟨show 1 ≤ sizeLine by decide, fun q hq => ?_⟩
    have s2 := Stp.own (o := .lst [d]) (ho := .lst [_]) s1.ok hq ⟨_, upd_same, .cons (dp_sub (fun x u hx => ?_) _ _ z1) .nil⟩
    · exact k _ _ _ _ ⟨q, rfl, rfl, s1.ok.fresh hq⟩ (s1.trans s2) rfl
    · obtain ⟨n, hx⟩ := vis_some hx
      refine vis_of (fun hm => ?_) (by rw [upd_ne (ne_of_none hx hq)]; exact hx)
      rcases List.mem_cons.mp hm with hm | hm
      · rw [hm, hq] at hx
        cases hx
      · exact n hm)
end
end Py
namespace Py
open PySem PySem.Spec PyProof.Rows L2

/-! ### min(a list of pairs of ints) -/
theorem lexLt_pair (a b c d : Int) : HT.lexLt [a, b] [c, d] = SrtO.lexB (a, b) (c, d) := by
  unfold SrtO.lexB
  rw [HT.lexLt_cons, HT.lexLt_cons]
  show (if a = c then (if b = d then HT.lexLt [] [] else decide (b < d)) else decide (a < c)) = if a = c then decide (b < d) else decide (a < c)
  by_cases h : a = c
  · rw [if_pos h, if_pos h]
    by_cases h2 : b = d
    · rw [if_pos h2, h2]
      simp [HT.lexLt_nil_nil]
    · rw [if_neg h2]
  · rw [if_neg h, if_neg h]
theorem best_le (p : Nat → Int × Int) : ∀ k, argBest (fun i j => SrtO.lexB (p i) (p j)) k ≤ k ∧ ∀ j, j ≤ k → SrtO.lexB (p j) (p (argBest (fun i j => SrtO.lexB (p i) (p j)) k)) = false
  | 0 => ⟨Nat.le_refl _, fun j hj => by
    obtain rfl : j = 0 := by omega
    show SrtO.lexB (p 0) (p 0) = false
    exact SrtO.lexB_no.mpr (by omega)⟩
  | k + 1 => by
    obtain ⟨h1, h2⟩ := best_le p k
    show (if SrtO.lexB (p (k + 1)) (p (argBest (fun i j => SrtO.lexB (p i) (p j)) k)) then k + 1 else argBest (fun i j => SrtO.lexB (p i) (p j)) k) ≤ k + 1 ∧ _
    generalize hb : argBest (fun i j => SrtO.lexB (p i) (p j)) k = b at h1 h2
    have e : argBest (fun i j => SrtO.lexB (p i) (p j)) (k + 1) = if SrtO.lexB (p (k + 1)) (p b) then k + 1 else b := by
      show (if SrtO.lexB (p (k + 1)) (p (argBest (fun i j => SrtO.lexB (p i) (p j)) k)) then k + 1 else argBest (fun i j => SrtO.lexB (p i) (p j)) k) = _
      rw [hb]
    by_cases hl : SrtO.lexB (p (k + 1)) (p b) = true
    · rw [if_pos hl] at e ⊢
      refine ⟨Nat.le_refl _, fun j hj => ?_⟩
      rw [e]
      have hl' := SrtO.lexB_iff.mp hl
      by_cases hj' : j = k + 1
      · subst hj'
        exact SrtO.lexB_no.mpr (by omega)
      · have h3 := SrtO.lexB_no.mp (h2 j (by omega))
        exact SrtO.lexB_no.mpr (by omega)
    · rw [if_neg hl] at e ⊢
      refine ⟨by omega, fun j hj => ?_⟩
      rw [e]
      by_cases hj' : j = k + 1
      · subst hj'
        exact Bool.eq_false_iff.mpr hl
      · exact h2 j (by omega)
section
variable {X : Cx} {a b c e o : Expr} {es : List Expr} {E : En} {O : Own} {pos p p' pos' : Pos}
def rMinP (K : PySem.W.Frag) : List V → Hp → VK → Prop := fun vs H Q => ∃ (q : Addr) (xs : List V) (k : V → Int × Int), vs = [V.ref q] ∧ SqL K H q xs ∧ 0 < xs.length ∧
  (∀ x ∈ xs, ∃ t, x = V.ref t ∧ SqT K H t [.int (k x).1, .int (k x).2]) ∧ ∀ x ∈ xs, (∀ y ∈ xs, lexle (k x) (k y)) → Q x H
theorem cr_minP (hc : X.calm = true) (hu : X.A.units + 64 < cLine) : CallR X (.builtin "min") (rMinP X.K) := by
  intro pins s σ H vs us Q I r ⟨q, xs, k, e0, hq, hne, hx, z⟩
  subst e0
  rw [Vals.ref1 r]
  obtain ⟨its, rv, pl, hz⟩ := I.list hq
  have hlen := rv.length
  have hs : its.toArray.size = xs.length := by rw [List.size_toArray, hlen]
  refine call_min_walkH (PySem.W.iter_listW (A := X.A.in1) (I.ok.hd hc) pl.isList fun s₂ e W st hfp hw hk => ?_)
  refine ⟨_, _, _, _, _, _, _, s.heap, fun i j => SrtO.lexB (k (xs.getD i .non)) (k (xs.getD j .non)), rfl, W, st, hfp, by rw [hs]; exact hne, hw, hk, ?_, fun v s' hP m => ?_⟩
  · intro i j vi vj s' Q' E' hk' hi hj hq'
    have one : ∀ (i : Nat) (vi : Value), its.toArray[i]? = some vi → ∃ t its2, vi = Value.ref t ∧ IsTup s'.heap t its2 ∧ IntsAre its2.toList [(k (xs.getD i .non)).1, (k (xs.getD i .non)).2] := by
      intro i vi hi
      have hi' : its[i]? = some vi := by simpa using hi
      have hlt : i < xs.length := by
        obtain ⟨h, _⟩ := List.getElem?_eq_some_iff.mp hi'
        omega
      obtain ⟨u, h1, h2⟩ := rv.get (List.getElem?_eq_getElem hlt)
      rw [hi'] at h1
      cases h1
      have eg : xs.getD i .non = xs[i] := by rw [List.getD_eq_getElem?_getD, List.getElem?_eq_getElem hlt]; rfl
      obtain ⟨t, e1, ht⟩ := hx xs[i] (List.getElem_mem _)
      rw [eg]
      rw [e1] at h2
      cases h2
      obtain ⟨its2, r2, ⟨o, ho, hcl, n, hd⟩, _⟩ := I.tuple ht
      refine ⟨t, its2.toArray, rfl, ⟨o, hk' _ _ ho, hcl, n, hd⟩, ?_⟩
      have := intsAre_of (ns := [(k xs[i]).1, (k xs[i]).2]) r2
      simpa using this
    obtain ⟨t1, i1, rfl, p1, q1⟩ := one i vi hi
    obtain ⟨t2, i2, rfl, p2, q2⟩ := one j vj hj
    refine HT.lt_tupInts p1 p2 q1 q2 (by show X.A.units + 1 < cLine; omega) ?_
    rw [lexLt_pair]
    exact hq'
  · obtain ⟨h', tk, rfl, hk'⟩ := PySem.W.moved_old e rfl m
    rw [hs] at hP
    obtain ⟨g1, g2⟩ := best_le (fun i => k (xs.getD i .non)) (xs.length - 1)
    generalize argBest (fun i j => SrtO.lexB (k (xs.getD i .non)) (k (xs.getD j .non))) (xs.length - 1) = bi at hP g1 g2
    have hlt : bi < xs.length := by omega
    obtain ⟨u, h1, h2⟩ := rv.get (List.getElem?_eq_getElem hlt)
    have hP' : its[bi]? = some v := by simpa using hP
    rw [h1] at hP'
    cases hP'
    have eg : ∀ j (hj : j < xs.length), xs.getD j .non = xs[j] := fun j hj => by rw [List.getD_eq_getElem?_getD, List.getElem?_eq_getElem hj]; rfl
    refine ⟨xs[bi], H, I.kept (t' := tk) hk', h2, z _ (List.getElem_mem _) fun y hy => ?_⟩
    obtain ⟨j, hj, rfl⟩ := List.getElem_of_mem hy
    have := g2 j (by omega)
    rw [eg j hj, eg bi hlt] at this
    exact this
theorem x_minP {ps : List (Int × Int)} {m : Int × Int} (hm : X.mg "min" = none) (ha : EX X a E O (vL (ps.map pD))) (h1 : m ∈ ps) (h2 : ∀ y ∈ ps, lexle m y) (hg : Gl X "min" := by rfl) (hc : X.calm = true := by rfl) (hs : starEach [a] X.env = (false, eval a X.env) :: starEach [] X.env := by rfl) (hpl : (backTo pos (starEach [] X.env)).any (·.1) = false := by rfl) (hu : X.A.units + 64 < cLine := by assumption) :
    EX X (.Call (.Name "min" p) [a] [] pos) E O (.d (pD m)) := x_cb1 (cr_minP hc hu) PyProof.Rows.boot_min (by decide) (by decide) hm ha (fun v H ok hv Q k => by
    obtain ⟨q, vs, rfl, h3, h4⟩ := lst_of hv
    obtain ⟨h5, h6⟩ := pairs_of h4
    have hl : vs.length = ps.length := by rw [← h6, List.length_map]
    refine ⟨q, vs, keyV (vis O H), rfl, SqL.of (vis_sub _ _ _ _ h3), by rw [hl]; exact List.length_pos_of_mem h1, fun x hx => ?_, fun x hx hle => ?_⟩
    · obtain ⟨t, e, ht⟩ := h5 x hx
      exact ⟨t, e, .inl (rd_sub (vis_sub _ _) ht)⟩
    · have hxm : keyV (vis O H) x = m := by
        rw [← h6] at h1 h2
        obtain ⟨y, hy, e⟩ := List.mem_map.mp h1
        refine lexle_anti ?_ (h2 _ (List.mem_map_of_mem hx))
        rw [← e]
        exact hle y hy
      obtain ⟨t, rfl, ht⟩ := h5 x hx
      rw [hxm] at ht
      exact k _ H _ _ ⟨rfl, rfl⟩ (.refl ok) (.tup ht (.cons (.int _) (.cons (.int _) .nil)))) hg hs hpl
/-! ### wide numbers -/
theorem x_fdivW {n m : Nat} (ha : EX X a E O (vI (n : Int))) (hb : EX X b E O (vI (m : Int))) (h : 0 < m) (h2 : m < 2 ^ 1000) : EX X (.BinOp a .FloorDiv b pos) E O (vI ((n / m : Nat) : Int)) := EX.cast (x_I (k := fun i j => .int (i / j)) rfl (pe_op op_fdivW WE.pe WE.pe) (fun _ => .int _) ha hb ⟨Int.natCast_pos.mpr h, by
    have := PySem.Flt.log2_lt_of (show 0 < 1000 by decide) (h2 : ((m : Int)).natAbs < 2 ^ 1000)
    exact Nat.lt_trans this (by decide)⟩) (by rw [Int.natCast_ediv])
theorem x_mulW {n m : Nat} (ha : EX X a E O (vI (n : Int))) (hb : EX X b E O (vI (m : Int))) (h : n < 2 ^ 1000) (h2 : m < 2 ^ 1000) : EX X (.BinOp a .Mult b pos) E O (vI ((n * m : Nat) : Int)) := EX.cast (x_I (k := fun i j => .int (i * j)) rfl (pe_op op_mulW WE.pe WE.pe) (fun _ => .int _) ha hb (wide_mul (a := 1000) (b := 1000) (by rw [Int.natAbs_natCast]; exact h) (by rw [Int.natAbs_natCast]; exact h2) (by decide) (by decide) (by decide))) (by rw [Int.natCast_mul])
/-! ### a, b = x, y -/
theorem y_par (i j : Nat) {D : PD} {x y : Str} {px py pt pt2 : Pos} {kt k2 : Nat} {r1 r2 : SV} (hN : X.N.Nodup) (ha : EX X a E O r1) (hb : EX X b E O r2) (h : D.nx ((E.set i (some r1)).set j (some r2)) O)
    (hc : X.calm = true := by rfl) (hi : X.N[i]? = some x := by rfl) (hj : X.N[j]? = some y := by rfl) (hij : i ≠ j := by decide) (hx : X.env.scope.names.lookup x = some .local := by rfl) (hy : X.env.scope.names.lookup y = some .local := by rfl)
    (hw : swappedStores [.Tuple [.Name x px, .Name y py] kt pt] (.Tuple [a, b] k2 pt2) X.env = pure (some [x, y]) := by rfl)
    (hsw : swapsWithSole [.Tuple [.Name x px, .Name y py] kt pt] (.Tuple [a, b] k2 pt2) pos.line X.env = pure false := by rfl)
    (hs : starEach [a, b] X.env = (false, eval a X.env) :: starEach [b] X.env := by rfl) (hs2 : starEach [b] X.env = (false, eval b X.env) :: starEach [] X.env := by rfl) :
    SG X (.Assign [.Tuple [.Name x px, .Name y py] kt pt] (.Tuple [a, b] k2 pt2) pos) E O D := s_par i j hc hN ha hb h (ps_par hc hN hi hj hij hx hy WA.pa hw hsw) hs hs2
end
end Py
namespace Py
open PySem PySem.Spec PyProof.Rows L2

/-! ### set(a list of ints) -/
section
variable {P : Program} {w : World} {A : Around} {E : Value → Shared → Prop} {s : Shared}
abbrev oSet (w : World) : Obj := { cls := .type "set", dict := none, data := .set #[] 0 (.fresh 0 0 (!w.params.followText "set-order")) }
abbrev oIt (l : Addr) : Obj := { cls := .type "list_iterator", data := .fields #[.ref l, .int 0 0] }
/-- what a set made of ns is, in a heap that keeps h -/
def MadeSet (w : World) (h h' : Heap) (ns : List Int) (c : Nat) : Prop := SetR w h' h.objs.size (fun j => decide (j ∈ ns)) c ∧ c ≤ ns.length ∧ ∀ b o, h.get? b = some o → h'.get? b = some o
def MadeAt (w : World) (s : Shared) (ns : List Int) : Value → Shared → Prop := fun r s' => r = .none ∧ ∃ h' tk c, s' = { s with heap := h', toks := tk } ∧ MadeSet w s.heap h' ns c
set_option maxHeartbeats 4000000 in
theorem set_list_ints {l : Addr} {its : List Value} {ns : List Int} {Q : Value → Shared → Prop} (hh : A.handled = none) (hl : s.heap.IsList l its.toArray) (hi : IntsAre its ns) (hb : ns.length + 1 < scanBound)
    (h : ∀ h' tk c, MadeSet w s.heap h' ns c → Q (.ref s.heap.objs.size) { s with heap := h', toks := tk }) : wpAny (model P w) A (call (.type "set") [.ref l]) Q E s := by
  have hlen : its.toArray.size = ns.length := by rw [List.size_toArray]; exact IntsAre.length hi
  obtain ⟨_, _, k1⟩ := F.called_set.mro
  have k2 := F.called_set.made
  have k3 := F.called_set.sub
  have k4 := F.called_set.notType
  have k5 := F.called_set.canCreate
  have k6 := F.typeCall_set_1 (.ref l)
  refine wpAny_call (codeAny_of_tree ?_)
  show wpAny _ _ (callAny (.type "set") ⟨[.ref l], []⟩) _ _ _
  refine wpAny_pure ⟨Code.quiet_builtin _ (by decide +kernel), codeAny_builtin F.entry_type_call ?_⟩
  rw [Around.under_plain (weight_type_call_type "set" [.ref l] []) rfl]
  repeat (any_goals (first | assumption | wp_step))
  refine codeAny_mono (code_set_led1 (.ref l) (E := E) (Q₁ := fun v z => v = .ref s.heap.objs.size ∧ z = { s with heap := s.heap.push (oSet w) }) ⟨rfl, rfl⟩) ?_
  rintro (_ | _ | _ | _ | _) z hr
  all_goals first | exact hr | exact hr.elim | skip
  obtain ⟨rfl, rfl⟩ := hr
  have gS : (s.heap.push (oSet w)).get? s.heap.objs.size = some (oSet w) := Heap.get?_push_size _ rfl
  have tS : Shared.TypeIs { s with heap := s.heap.push (oSet w) } (.ref s.heap.objs.size) "set" := ⟨_, gS, rfl⟩
  have k7 := F.called_set.init.lookup
  have k8 := F.called_set.init.bind (.ref s.heap.objs.size)
  repeat (any_goals (first | assumption | wp_step))
  refine codeAny_mono (codeAny_call_builtin (R := wants (MadeAt w s ns) E) F.called_set.init.plain F.entry_set_init (check_set_init_1 tS ?_)) ?_
  · obtain ⟨⟨oc, od, odat, osl⟩, ol, e1, n, e2⟩ := hl
    obtain rfl : oc = .type "list" := e1
    obtain rfl : odat = .seq its.toArray n := e2
    have lS : l < s.heap.objs.size := Heap.lt_size ol
    have gl : (s.heap.push (oSet w)).get? l = some ⟨.type "list", od, .seq its.toArray n, osl⟩ := Heap.get?_push_of_some _ ol
    have q1 := PySem.F.sub_list_set
    have q2 := PySem.F.sub_list_frozenset
    have q3 : (Value.type "list" == Value.type "dict") = false := by decide
    have isl : (s.heap.push (oSet w)).IsList l its.toArray := ⟨_, gl, rfl, n, rfl⟩
    have hz : (s.heap.push (oSet w)).objs.size = s.heap.objs.size + 1 := Heap.size_push ..
    unfold Builtin.«set.__init__» noKeywords Builtin.Frozenset.updateFrom
    generalize hPI : pyIter = PI
    wp_walk
    subst hPI
    refine wpAny_pyIter_list isl (wpAny_bind (wpAny_runValue ?_))
    have hh3 : A.in1.in1.in1.handled = none := by simp [hh]
    have ne1 : l ≠ (s.heap.push (oSet w)).objs.size := by rw [hz]; exact Nat.ne_of_lt (Nat.lt_succ_of_lt lS)
    have ne2 : s.heap.objs.size ∉ [(s.heap.push (oSet w)).objs.size, l] := fun m => by
      rcases List.mem_cons.mp m with m | m
      · rw [hz] at m
        exact absurd m (Nat.ne_of_lt (Nat.lt_succ_self _))
      · exact absurd (List.mem_singleton.mp m) (Nat.ne_of_gt lS)
    refine set_update_ints ((Walks.list hh3 _ l ne1 its.toArray).toS) s.heap.objs.size ne2 ns hlen hb (fun i v hv => ?_) its.toArray.size 0 _ rfl (Nat.zero_le _) ⟨⟨_, Heap.get?_push_size _ rfl, rfl, rfl⟩, isl.push _⟩ ⟨0, Nat.le_refl 0, ?_⟩ fun s' c m hc hS => ?_
    · have hlt : i < ns.length := by rw [← hlen]; exact (Array.getElem?_eq_some_iff.mp hv).1
      obtain ⟨t, e⟩ := PyProof.Rows.IntsAre.int_at hi i v (by simpa using hv)
      exact ⟨ns[i], t, List.getElem?_eq_getElem hlt, by rw [e, List.getD_eq_getElem?_getD, List.getElem?_eq_getElem hlt]; rfl⟩
    · exact setR_new_at (Heap.get?_push_of_some (oIt l) gS)
    · obtain ⟨h2, g2, d2, t2, os2⟩ := s'
      obtain rfl : g2 = s.gens := m.gens
      obtain rfl : d2 = s.drawn := m.drawn
      obtain rfl : os2 = s.os := m.os
      show wpAny _ _ _ _ _ _
      refine wpAny_pure ?_
      show wpAny _ _ (ret Value.none) _ _ _
      refine wpAny_pure ⟨rfl, h2, t2, c, rfl, hS, hlen ▸ hc, fun b o e => m.heap b o (fun z => ?_) (Heap.get?_push_of_some _ (Heap.get?_push_of_some _ e))⟩
      have hb0 : b < s.heap.objs.size := Heap.lt_size e
      rcases List.mem_cons.mp z with z | z
      · exact absurd z (Nat.ne_of_lt hb0)
      · have z' := List.mem_singleton.mp z
        rw [hz] at z'
        exact absurd z' (Nat.ne_of_lt (Nat.lt_succ_of_lt hb0))
  · rintro (_ | _ | _ | _ | _) z hr
    all_goals first | exact hr | exact hr.elim | skip
    obtain ⟨rfl, h2, tk, c, rfl, hM⟩ := hr
    repeat (any_goals (first | assumption | wp_step))
    exact h h2 tk c hM
end
section
variable {X : Cx} {a b c e o : Expr} {es : List Expr} {E : En} {O : Own} {pos p p' pos' : Pos}
def rSetL (K : PySem.W.Frag) (w : World) : List V → Hp → VK → Prop := fun vs H Q => ∃ (q : Addr) (ns D : List Int), vs = [V.ref q] ∧ SqL K H q (ns.map V.int) ∧ ns.length ≤ 4000 ∧ (∀ k ∈ ns, k ∈ D) ∧
  ∀ q' n, H q' = none → n ≤ D.length → Q (.ref q') (upd H q' (SetO w q' (fun j => decide (j ∈ ns)) n))
theorem cr_setL (hc : X.calm = true) : CallR X (.type "set") (rSetL X.K X.w) := by
  intro pins s σ H vs us Q I r ⟨q, ns, D, e0, hq, hz, hD, z⟩
  subst e0
  rw [Vals.ref1 r]
  obtain ⟨its, rv, pl, _⟩ := I.list hq
  refine set_list_ints (I.ok.hd hc) pl.isList rv.ints (by unfold scanBound; omega) fun h' tk n M => ?_
  obtain ⟨R, _, hk⟩ := M
  have hf : H s.heap.objs.size = none := I.hok.fresh (Nat.le_refl _)
  exact ⟨.ref s.heap.objs.size, _, I.laid (t' := tk) hk (Nat.le_refl _) (setO_new R), rfl, z _ n hf (set_few R hD)⟩
theorem x_sortedSetL {ns D : List Int} (hm : X.mg "sorted" = none) (hm2 : X.mg "set" = none) (ha : EX X a E O (vL (ns.map .int))) (hz : ns.length ≤ 4000) (hD : ∀ k, k ∈ D ↔ k ∈ ns) (hp : D.Pairwise (· < ·)) (hD2 : D.length < 64) (hg : Gl X "sorted" := by rfl) (hg2 : Gl X "set" := by rfl) (hc : X.calm = true := by rfl) (hs : starEach [a] X.env = (false, eval a X.env) :: starEach [] X.env := by rfl) (hpl2 : (backTo pos' (starEach [] X.env)).any (·.1) = false := by rfl)
    (hs2 : starEach [.Call (.Name "set" p') [a] [] pos'] X.env = (false, eval (.Call (.Name "set" p') [a] [] pos') X.env) :: starEach [] X.env := by rfl) (hpl : (backTo pos (starEach [] X.env)).any (·.1) = false := by rfl) :
    EX X (.Call (.Name "sorted" p) [.Call (.Name "set" p') [a] [] pos'] [] pos) E O (vL (D.map .int)) := fun σ H R Q k =>
  we_of (pe_callB (cr_sortedSet hc) hg hm PyProof.Rows.boot_sorted (pa_cons (pe_callTy (cr_setL hc) hg2 hm2 PyProof.Rows.boot_set WA.pa (by decide) (by decide) hs hpl2) pa_nil hs2) (by decide) (by decide) hs2 hpl) (by
  refine (a_cons ha a_nil hs : EA X [a] E O [_]) σ H R _ fun us H1 rs O1 ⟨e1, e2⟩ s1 z1 => ?_
  subst e1; subst e2
  cases z1 with
  | cons z1 z2 =>
    cases z2
    obtain ⟨l, rfl, h1⟩ := lst_ints z1
    refine ⟨l, ns, D, rfl, SqL.of (vis_sub _ _ _ _ h1), hz, fun x hx => (hD x).mpr hx, fun q' n hq hn => ?_⟩
    have s2 := Stp.laid (o := SetO X.w q' (fun j => decide (j ∈ ns)) n) s1.ok hq
    refine ⟨q', _, n, rfl, upd_same, by omega, fun ns' p2 w1 w2 _ hp2 => ?_⟩
    have e : ns' = D := by
      refine List.Perm.eq_of_pairwise (le := (· < ·)) (fun a b _ _ h1 h2 => absurd (Int.lt_trans h1 h2) (Int.lt_irrefl _)) w1 hp ?_
      refine (List.perm_ext_iff_of_nodup (w1.imp fun h e => ?_) (hp.imp fun h e => ?_)).mpr fun x => ?_
      · exact Int.lt_irrefl _ (e ▸ h)
      · exact Int.lt_irrefl _ (e ▸ h)
      · rw [w2, hD]
        simp
    subst e
    have s3 := Stp.laid (o := .lst (ns'.map V.int)) s2.ok hp2
    exact k _ _ _ _ ⟨rfl, rfl⟩ ((s1.trans s2).trans s3) (.lst (vis_laid s2.ok hp2) dpa_ints))
/-- len(set(xs)) -/
def rLenSet (w : World) : List V → Hp → VK → Prop := fun vs H Q => ∃ (a : Addr) (ns D : List Int) (n : Nat), vs = [V.ref a] ∧ H a = some (SetO w a (fun j => decide (j ∈ ns)) n) ∧ D.Nodup ∧ (∀ k, k ∈ D ↔ k ∈ ns) ∧ Q (.int D.length) H
theorem cr_lenSet : CallR X (.builtin "len") (rLenSet X.w) := by
  intro pins s σ H vs us Q I r ⟨a, ns, D, n, e0, ha, hn, hD, z⟩
  subst e0
  rw [Vals.ref1 r]
  obtain ⟨o, es, ep, t, g1, g2, g3, _, g5, g6, g7, g8, g9, _, _⟩ := setO_get I ha
  have hp : (es.toList.map keyOf).Perm D := (List.perm_ext_iff_of_nodup g5 hn).mpr fun k => by
    rw [hD, ← g6]
    simp
  have hl : es.size = D.length := by
    have := hp.length_eq
    rw [List.length_map, Array.length_toList] at this
    exact this
  refine call_len_set g1 g2 g3 g8 (by unfold scanBound at g7; omega) ⟨.int D.length, H, I.tok _, ⟨_, by rw [hl]⟩, z⟩
theorem x_lenSetL {ns D : List Int} (hm : X.mg "len" = none) (hm2 : X.mg "set" = none) (ha : EX X a E O (vL (ns.map .int))) (hz : ns.length ≤ 4000) (hn : D.Nodup) (hD : ∀ k, k ∈ D ↔ k ∈ ns) (hg : Gl X "len" := by rfl) (hg2 : Gl X "set" := by rfl) (hc : X.calm = true := by rfl) (hs : starEach [a] X.env = (false, eval a X.env) :: starEach [] X.env := by rfl) (hpl2 : (backTo pos' (starEach [] X.env)).any (·.1) = false := by rfl)
    (hs2 : starEach [.Call (.Name "set" p') [a] [] pos'] X.env = (false, eval (.Call (.Name "set" p') [a] [] pos') X.env) :: starEach [] X.env := by rfl) (hpl : (backTo pos (starEach [] X.env)).any (·.1) = false := by rfl) :
    EX X (.Call (.Name "len" p) [.Call (.Name "set" p') [a] [] pos'] [] pos) E O (vI (D.length : Nat)) := fun σ H R Q k =>
  we_of (pe_callB cr_lenSet hg hm PySem.boot_len (pa_cons (pe_callTy (cr_setL hc) hg2 hm2 PyProof.Rows.boot_set WA.pa (by decide) (by decide) hs hpl2) pa_nil hs2) (by decide) (by decide) hs2 hpl) (by
  refine (a_cons ha a_nil hs : EA X [a] E O [_]) σ H R _ fun us H1 rs O1 ⟨e1, e2⟩ s1 z1 => ?_
  subst e1; subst e2
  cases z1 with
  | cons z1 z2 =>
    cases z2
    obtain ⟨l, rfl, h1⟩ := lst_ints z1
    refine ⟨l, ns, D, rfl, SqL.of (vis_sub _ _ _ _ h1), hz, fun x hx => (hD x).mpr hx, fun q' n hq _ => ?_⟩
    have s2 := Stp.laid (o := SetO X.w q' (fun j => decide (j ∈ ns)) n) s1.ok hq
    exact ⟨q', ns, D, n, rfl, upd_same, hn, hD, k _ _ _ _ ⟨rfl, rfl⟩ (s1.trans s2) (.int _)⟩)
end
end Py
namespace Py
open PySem PySem.Spec PyProof.Rows L2

/-! ### sorted(a tuple) -/
section
variable {prog : Program} {w : World} {A : Around} {E : Value → Shared → Prop} {s : Shared}
abbrev hC (h : Heap) (vs : List Value) : Heap := (h.push (seqObj "list" #[] 0)).update h.objs.size (Obj.mapSeq (· ++ vs.toArray))
theorem collect_tup {t : Addr} {vs : List Value} {Q : List Value → Shared → Prop} (ht : IsTup s.heap t vs.toArray) (hz : vs.length ≤ sizeLine) (h : Q vs { s with heap := hC s.heap vs }) : wpAny (model prog w) A (collect (.ref t)) Q E s := by
  obtain ⟨o, ho, hc, n, hd⟩ := ht
  have g0 : (s.heap.push (seqObj "list" #[] 0)).get? s.heap.objs.size = some (seqObj "list" #[] 0) := Heap.get?_push_size _ rfl
  have g1 : (s.heap.push (seqObj "list" #[] 0)).get? t = some o := Heap.get?_push_of_some _ ho
  unfold collect
  refine wpAny_bind (wpAny_runValue (codeAny_builtin entry_proto_collect' ?_))
  show wpAny _ _ (do again (.builtin "list.__iadd__" ⟨[← newList [], .ref t], []⟩)) _ _ s
  refine wpAny_bind (wpAny_newList (wpAny_pure ⟨Code.quiet_builtin _ (by decide +kernel), codeAny_builtin entry_list_iadd' ?_⟩))
  show wpAny _ _ (Builtin.List.listExtendWith (.ref s.heap.objs.size) (.ref t) (.ref s.heap.objs.size)) _ _ { s with heap := s.heap.push (seqObj "list" #[] 0) }
  unfold Builtin.List.listExtendWith
  refine wpAny_bind (wpAny_typeOf (T := "tuple") ⟨o, g1, hc⟩ ?_)
  rw [if_pos (by rw [show (Value.type "tuple" == Value.type "tuple") = true from rfl]; simp)]
  refine wpAny_bind (listItems_at g1 hd (wpAny_bind (listItems_at g0 rfl ?_)))
  rw [if_neg (by simp)]
  refine wpAny_bind (listUpdate_at g0 rfl ?_ (Nat.zero_le _) (by simpa using Nat.le_succ_of_le hz))
  refine wpAny_pure ?_
  show wpAny (model prog w) A (load s.heap.objs.size >>= fun o => _) Q E { s with heap := hC s.heap vs }
  refine wpAny_bind (wpAny_load (get?_update_seq g0 _) ?_)
  show wpAny _ _ (pure ((#[] : Array Value) ++ vs.toArray).toList) Q E _
  have e : ((#[] : Array Value) ++ vs.toArray).toList = vs := by simp
  rw [e]
  exact wpAny_pure h
theorem sorted_tupO {t : Addr} {vs : List Value} {lt : Value → Value → Bool} {Q : Value → Shared → Prop} (o : SrtO.Swo lt) (ht : IsTup s.heap t vs.toArray) (hz : vs.length ≤ sizeLine)
    (hS : 2 ≤ vs.length → ∀ (h : Heap) (a : Addr), h.get? a = some (seqObj "list" vs.toArray 0) → (∀ b x, s.heap.get? b = some x → b ≠ a ∧ h.get? b = some x) → SrtO.SortableO prog w A.in1.in1 { s with heap := h } a vs lt)
    (h : ∀ out : List Value, SrtO.Srtd lt out → SrtO.Stb lt out vs → Q (.ref (s.heap.objs.size + 1)) { s with heap := sortedAll s.heap vs out.toArray }) : wpAny (model prog w) A (call (.builtin "sorted") [.ref t]) Q E s := by
  have hsz : (hC s.heap vs).objs.size = s.heap.objs.size + 1 := by rw [Heap.size_update, size_push']
  have g0 : ((hC s.heap vs).push (seqObj "list" vs.toArray 0)).get? (s.heap.objs.size + 1) = some (seqObj "list" vs.toArray 0) := by rw [← hsz]; exact Heap.get?_push_size _ rfl
  have keep : ∀ b x, s.heap.get? b = some x → b ≠ s.heap.objs.size + 1 ∧ ((hC s.heap vs).push (seqObj "list" vs.toArray 0)).get? b = some x := fun b x q => by
    have hlt : b < s.heap.objs.size := Heap.lt_size q
    refine ⟨Nat.ne_of_lt (Nat.lt_succ_of_lt hlt), Heap.get?_push_of_some _ ?_⟩
    have e : (hC s.heap vs).get? b = (s.heap.push (seqObj "list" #[] 0)).get? b := Heap.get?_update_ne _ _ _ _ (Nat.ne_of_lt hlt)
    rw [e]
    exact Heap.get?_push_of_some _ q
  refine Calls.call_function_entry kind_sorted plain_sorted entry_sorted (args_sorted1 _) ?_
  unfold Builtin.«sorted»
  refine wpAny_bind (m := checkCount "sorted" 1 1 _) (wpAny_pure (wpAny_bind (collect_tup ht hz (wpAny_bind (wpAny_newList ?_ hz)))))
  show wpAny _ _ _ _ _ { s with heap := (hC s.heap vs).push (seqObj "list" vs.toArray 0) }
  rw [hsz]
  refine wpAny_bind (wpAny_holding (wpAny_call_entry slot_list_sort ⟨_, g0, rfl⟩ entry_list_sort (SrtO.list_sort_ord o g0 hz (fun h2 => hS h2 _ _ g0 keep) fun out hs hb => ⟨_, rfl, ?_⟩) (args_list_sort _)))
  exact wpAny_pure ⟨_, rfl, h out hs hb⟩
end
section
variable {X : Cx} {a b c e o : Expr} {es : List Expr} {E : En} {O : Own} {pos p p' pos' : Pos}
def rSrtTI (K : PySem.W.Frag) : List V → Hp → VK → Prop := fun vs H Q => ∃ (t : Addr) (ns : List Int), vs = [V.ref t] ∧ SqT K H t (ns.map V.int) ∧
  ∀ (ns' : List Int) (p : Addr), ns'.Perm ns → ns'.Pairwise (· ≤ ·) → H p = none → Q (.ref p) (upd H p (.lst (ns'.map V.int)))
theorem cr_srtTI : CallR X (.builtin "sorted") (rSrtTI X.K) := by
  intro pins s σ H vs us Q I r ⟨t, ns, e0, hs, q⟩
  subst e0
  obtain ⟨its, rv, ht, hz⟩ := I.tuple hs
  rw [Vals.ref1 r]
  have hi := rv.ints
  have hlz : its.length ≤ sizeLine := by rw [← rv.length]; exact hz
  refine sorted_tupO SrtO.swo_int ht hlz (fun h2 h₁ a' _ _ => SrtO.ints_sortable hi h2) fun out h1 h2 => ?_
  obtain ⟨k1, k2, k3⟩ := SrtO.ints_out hi h1 h2
  obtain ⟨ep, he⟩ := PyProof.Rows.sortedAll_at s.heap its out.toArray
  have hl2 : ((out.map SrtO.iv).map V.int).length ≤ sizeLine := by
    rw [List.length_map, k2.length_eq]
    simpa using hz
  refine ⟨.ref (s.heap.objs.size + 1), upd H (s.heap.objs.size + 1) (.lst ((out.map SrtO.iv).map V.int)), I.laid (t' := s.toks) (fun _ _ => PyProof.Rows.sortedAll_old) (Nat.le_succ _) ?_, rfl, q _ _ k2 k3 (I.hok.fresh (Nat.le_succ _))⟩
  exact ⟨hl2, out, ep, vals_of_ints k1, he⟩
theorem x_sortedTI {ns D : List Int} (hm : X.mg "sorted" = none) (ha : EX X a E O (vT (ns.map .int))) (hp : D.Perm ns) (hD : D.Pairwise (· ≤ ·)) (hg : Gl X "sorted" := by rfl) (hs : starEach [a] X.env = (false, eval a X.env) :: starEach [] X.env := by rfl) (hpl : (backTo pos (starEach [] X.env)).any (·.1) = false := by rfl) :
    EX X (.Call (.Name "sorted" p) [a] [] pos) E O (vL (D.map .int)) := x_cb1 cr_srtTI PyProof.Rows.boot_sorted (by decide) (by decide) hm ha (fun v H ok hv Q k => by
    obtain ⟨q, rfl, h3⟩ := tup_ints hv
    refine ⟨q, ns, rfl, .inl (rd_sub (vis_sub _ _) h3), fun ys p2 w1 w2 hp2 => ?_⟩
    have e : ys = D := List.Perm.eq_of_pairwise (le := (· ≤ ·)) (fun a b _ _ h1 h2 => Int.le_antisymm h1 h2) w2 hD (w1.trans hp.symm)
    subst e
    have s3 := Stp.laid (o := .lst (ys.map V.int)) ok hp2
    exact k _ _ _ _ ⟨rfl, rfl⟩ s3 (.lst (vis_laid ok hp2) dpa_ints)) hg hs hpl
/-- sorted(a tuple of pairs of ints) -/
def rSrtTP (K : PySem.W.Frag) : List V → Hp → VK → Prop := fun vs H Q => ∃ (a : Addr) (xs : List V) (k : V → Int × Int), vs = [V.ref a] ∧ SqT K H a xs ∧
  (∀ x ∈ xs, ∃ t, x = V.ref t ∧ SqT K H t [.int (k x).1, .int (k x).2]) ∧ ∀ ys p, ys.Pairwise (fun x y => lexle (k x) (k y)) → ys.Perm xs → H p = none → Q (.ref p) (upd H p (.lst ys))
theorem cr_srtTP : CallR X (.builtin "sorted") (rSrtTP X.K) := by
  intro pins s σ H vs us Q I r ⟨a, xs, k, e0, hs, hx, q⟩
  subst e0
  obtain ⟨its, rv, hl, hz⟩ := I.tuple hs
  have hlen : its.length ≤ sizeLine := rv.length ▸ hz
  rw [Vals.ref1 r]
  obtain ⟨e1, e2⟩ := refs_back rv (fun x m => (hx x m).imp fun t z => z.1)
  have hp : ∀ v ∈ its, Srt.IsPair s.heap v (k (backV v)).1 (k (backV v)).2 := fun v hv => by
    obtain ⟨t, rfl⟩ := e2 v hv
    obtain ⟨t', e, ht⟩ := hx (V.ref t) (e1 ▸ List.mem_map.mpr ⟨_, hv, rfl⟩)
    injection e with e
    subst e
    obtain ⟨its2, r2, ⟨o, ho, hc, n, hd⟩, _⟩ := I.tuple ht
    obtain ⟨u1, u2, rfl, ⟨t1, rfl⟩, ⟨t2, rfl⟩⟩ := vals2 r2
    exact ⟨t, o, t1, t2, n, rfl, ho, hc, hd⟩
  refine sorted_tupO (SrtO.swo_lex fun v => k (backV v)) hl hlen (fun h2 h₁ a' ha kk => ?_) fun out h1 h2 => ?_
  · refine SrtO.pairs_sortableO (s := { s with heap := h₁ }) (by omega) (fun v hm => (hp v hm).keeps fun b o e _ => (kk b o e).2) fun o e => ?_
    have e' : some o = some (seqObj "list" its.toArray 0) := e.symm.trans ha
    cases e'
    intro c
    exact absurd (Value.type.inj c) (by decide)
  · have h3 : ∀ u ∈ out, ∃ a, u = Value.ref a := fun u hu => e2 u ((h2.perm.mem_iff).mp hu)
    have pm : (out.map backV).Perm xs := by
      rw [e1]
      exact h2.perm.map backV
    obtain ⟨n, hn⟩ := PyProof.Rows.sortedAll_at s.heap its out.toArray
    have new : ObjOk X.prog X.w (upd H (s.heap.objs.size + 1) (.lst (out.map backV))) (sortedAll s.heap its out.toArray) (s.heap.objs.size + 1) (.lst (out.map backV)) := ⟨by rw [pm.length_eq]; exact hz, out, n, vals_back h3, hn⟩
    refine ⟨.ref (s.heap.objs.size + 1), _, I.laid (t' := s.toks) (fun _ _ => PyProof.Rows.sortedAll_old) (Nat.le_succ _) new, rfl, q _ _ ?_ pm (I.hok.fresh (Nat.le_succ _))⟩
    rw [List.pairwise_map]
    exact h1
theorem x_sortedTP {ps ps' : List (Int × Int)} (hm : X.mg "sorted" = none) (ha : EX X a E O (vT (ps.map pD))) (hp : ps'.Perm ps) (hs' : ps'.Pairwise lexle) (hg : Gl X "sorted" := by rfl) (hs : starEach [a] X.env = (false, eval a X.env) :: starEach [] X.env := by rfl) (hpl : (backTo pos (starEach [] X.env)).any (·.1) = false := by rfl) :
    EX X (.Call (.Name "sorted" p) [a] [] pos) E O (vL (ps'.map pD)) := x_cb1 cr_srtTP PyProof.Rows.boot_sorted (by decide) (by decide) hm ha (fun v H ok hv Q k => by
    obtain ⟨q, vs, rfl, h3, h4⟩ := tup_of hv
    obtain ⟨h5, h6⟩ := pairs_of h4
    refine ⟨q, vs, keyV (vis O H), rfl, .inl (rd_sub (vis_sub _ _) h3), fun x hx => ?_, fun ys p2 w1 w2 hp2 => ?_⟩
    · obtain ⟨t, e, ht⟩ := h5 x hx
      exact ⟨t, e, .inl (rd_sub (vis_sub _ _) ht)⟩
    · have e : ys.map (keyV (vis O H)) = ps' := by
        refine List.Perm.eq_of_pairwise (le := lexle) (fun a b _ _ => lexle_anti) (List.pairwise_map.mpr w1) hs' ((w2.map _).trans (by rw [h6]; exact hp.symm))
      have s3 := Stp.laid (o := .lst ys) ok hp2
      have hd : DqAll (vis O H) ys (ps'.map pD) := by
        rw [← e]
        exact dq_pairs fun x hx => h5 x (w2.mem_iff.mp hx)
      exact k _ _ _ _ ⟨rfl, rfl⟩ s3 (.lst (vis_laid ok hp2) (dpAll_sub s3.vis _ _ hd))) hg hs hpl
end
end Py
namespace Py
open PySem PySem.Spec PyProof.Rows L2
section
variable {X : Cx} {a b c e o : Expr} {es : List Expr} {E : En} {O : Own} {pos p p' pos' : Pos}
/-- sorted(a tuple of ints), the new list one's own -/
theorem g_sortedTI {ns D : List Int} (hm : X.mg "sorted" = none) (ha : EX X a E O (vT (ns.map .int))) (hp : D.Perm ns) (hD : D.Pairwise (· ≤ ·)) (hg : Gl X "sorted" := by rfl) (hs : starEach [a] X.env = (false, eval a X.env) :: starEach [] X.env := by rfl) (hpl : (backTo pos (starEach [] X.env)).any (·.1) = false := by rfl) :
    EG X (.Call (.Name "sorted" p) [a] [] pos) E O fun r O' => ∃ q, r = .v (.ref q) ∧ O' = (q, .lst (D.map .int)) :: O ∧ q ∉ O.map (·.1) := fun σ H R Q k => we_of (pe_callB cr_srtTI hg hm PyProof.Rows.boot_sorted WA.pa (by decide) (by decide) hs hpl) (by
  refine (a_cons ha a_nil hs : EA X [a] E O [_]) σ H R _ fun us H1 rs O1 ⟨e1, e2⟩ s1 z1 => ?_
  subst e1; subst e2
  cases z1 with
  | cons z1 z2 =>
    cases z2
    obtain ⟨q, rfl, h3⟩ := tup_ints z1
    refine ⟨q, ns, rfl, .inl (rd_sub (vis_sub _ _) h3), fun ys p2 w1 w2 hp2 => ?_⟩
    have e : ys = D := List.Perm.eq_of_pairwise (le := (· ≤ ·)) (fun a b _ _ h1 h2 => Int.le_antisymm h1 h2) w2 hD (w1.trans hp.symm)
    subst e
    have s2 := Stp.own (o := .lst (ys.map .int)) (ho := .lst (ys.map V.int)) s1.ok hp2 ⟨_, upd_same, dpa_ints⟩
    exact k _ _ _ _ ⟨p2, rfl, rfl, s1.ok.fresh hp2⟩ (s1.trans s2) rfl)
theorem erase_at {ns : List Int} {k : Int} (h : k ∈ ns) : ∃ j, ns[j]? = some k ∧ (∀ m : Nat, m < j → ns[m]? ≠ some k) ∧ ns.eraseIdx j = ns.erase k := by
  induction ns with
  | nil => cases h
  | cons x r ih =>
    by_cases e : x = k
    · subst e
      exact ⟨0, rfl, fun m hm => absurd hm (Nat.not_lt_zero _), by simp⟩
    · have h' : k ∈ r := by
        rcases List.mem_cons.mp h with z | z
        · exact absurd z.symm e
        · exact z
      obtain ⟨j, h1, h2, h3⟩ := ih h'
      refine ⟨j + 1, by simpa using h1, fun m hm => ?_, ?_⟩
      · cases m with
        | zero => simp [e]
        | succ m => simpa using h2 m (by omega)
      · rw [List.eraseIdx_cons_succ, h3, List.erase_cons_tail (by simpa using e)]
theorem g_remove {q : Addr} {ns : List Int} {k : Int} (ha : EX X a E O (.v (.ref q))) (hb : EX X b E O (vI k)) (hO : (q, .lst (ns.map .int)) ∈ O) (hk : k ∈ ns)
    (p1 : PE X (.Call (.Attribute a "remove" p) [b] [] pos) (tBM X.K "list" rRemI (WE X a) (WA X [b]))) (hs : starEach [b] X.env = (false, eval b X.env) :: starEach [] X.env := by rfl) :
    EG X (.Call (.Attribute a "remove" p) [b] [] pos) E O fun r O' => r = vN ∧ O' = setO O q (.lst ((ns.erase k).map .int)) := fun σ H R Q kk => we_of p1 (by
  refine ha σ H R _ fun v H1 r1 O1 ⟨e1, e2⟩ s1 z1 => ?_
  subst e1; subst e2
  obtain rfl : v = .ref q := z1
  obtain ⟨vs, h1, h2⟩ := s1.ok.is _ hO
  refine ⟨.inl ⟨rfl, _, SqL.of h1⟩, ?_⟩
  refine (a_cons hb a_nil hs : EA X [b] E _ [vI k]) σ H1 (R.step s1) _ fun us H2 rs O2 ⟨e1, e2⟩ s2 z2 => ?_
  subst e1; subst e2
  cases z2 with
  | cons z2 z3 =>
    cases z3
    obtain rfl := int_of z2
    obtain ⟨vs2, h3, h4⟩ := s2.ok.is _ hO
    obtain rfl := dpa_ofInts h4
    obtain ⟨j, g1, g2, g3⟩ := erase_at hk
    refine ⟨q, ns, k, j, rfl, rfl, h3, g1, g2, ?_⟩
    rw [g3]
    have s3 := Stp.put (o := .lst ((ns.erase k).map .int)) (ho := .lst ((ns.erase k).map V.int)) s2.ok (List.mem_map_of_mem hO) (fun x e => by rw [h3] at e; cases e) ⟨_, upd_same, dpa_ints⟩
    exact kk _ _ _ _ ⟨rfl, rfl⟩ ((s1.trans s2).trans s3) .non)
theorem s_remove {D : PD} {q : Addr} {ns : List Int} {k : Int} (ha : EX X a E O (.v (.ref q))) (hb : EX X b E O (vI k)) (hO : (q, .lst (ns.map .int)) ∈ O) (hk : k ∈ ns) (h : D.nx E (setO O q (.lst ((ns.erase k).map .int))))
    (hbase : attributeBase a "remove" X.env (eval a X.env) = eval a X.env := by rfl)
    (hfew : ((backTo pos (starEach [b] X.env)).all (fun x => !x.1) && (backToKw pos (keywordEach [] X.env)).all (fun x => x.1.isSome)
      && decide (([b] : List Expr).length + ([] : List Keyword).length + (if ([] : List Keyword).isEmpty then 0 else 1) < 30)) = true := by rfl)
    (hline : (p.endLine == pos.line) = true := by rfl) (hplain : (backTo pos (starEach [] X.env)).any (·.1) = false := by rfl) (hs : starEach [b] X.env = (false, eval b X.env) :: starEach [] X.env := by rfl)
    (hw : swapsWith (.Call (.Attribute a "remove" p) [b] [] pos) none pos'.line X.env = pure false := by rfl) :
    SG X (.Expr (.Call (.Attribute a "remove" p) [b] [] pos) pos') E O D := s_exprG (g_remove ha hb hO hk (pe_bm PySem.F.plainAttrs_list PySem.F.slot_list_remove PySem.F.type_list_remove mt_remove WE.pe WA.pa hbase hfew hline hs hplain) hs) (fun r O' ⟨e1, e2⟩ => by subst e2; exact h) hw
end
end Py
namespace Rg

/-! ### the turn -/
def tn (w s : Nat) : Nat := w / Nat.gcd w s
theorem gcd_pos {w s : Nat} (hw : 0 < w) : 0 < Nat.gcd w s := Nat.gcd_pos_of_pos_left _ hw
theorem tn_pos {w s : Nat} (hw : 0 < w) : 0 < tn w s := Nat.div_pos (Nat.le_of_dvd hw (Nat.gcd_dvd_left w s)) (gcd_pos hw)
theorem tn_le (w s : Nat) : tn w s ≤ w := Nat.div_le_self _ _
theorem tn_mul (w s : Nat) : tn w s * Nat.gcd w s = w := Nat.div_mul_cancel (Nat.gcd_dvd_left w s)
theorem mul_mod_zero {w s k : Nat} (hw : 0 < w) : k * s % w = 0 ↔ tn w s ∣ k := by
  have hg := gcd_pos (s := s) hw
  have e1 : w = tn w s * Nat.gcd w s := (tn_mul w s).symm
  have e2 : s = s / Nat.gcd w s * Nat.gcd w s := (Nat.div_mul_cancel (Nat.gcd_dvd_right w s)).symm
  have cop : (tn w s).Coprime (s / Nat.gcd w s) := Nat.coprime_div_gcd_div_gcd hg
  rw [← Nat.dvd_iff_mod_eq_zero]
  constructor
  · intro h
    have h2 : tn w s * Nat.gcd w s ∣ k * (s / Nat.gcd w s) * Nat.gcd w s := by
      rw [Nat.mul_assoc, ← e2, ← e1]
      exact h
    exact cop.dvd_of_dvd_mul_right (Nat.dvd_of_mul_dvd_mul_right hg h2)
  · rintro ⟨c, rfl⟩
    refine ⟨c * (s / Nat.gcd w s), ?_⟩
    have key : ∀ t g q : Nat, t * c * (q * g) = t * g * (c * q) := fun t g q => by
      simp only [Nat.mul_assoc, Nat.mul_comm, Nat.mul_left_comm]
    have k1 := key (tn w s) (Nat.gcd w s) (s / Nat.gcd w s)
    rw [← e2, ← e1] at k1
    exact k1
theorem mod_eq_iff {w s i j : Nat} (hw : 0 < w) (h : i ≤ j) : i * s % w = j * s % w ↔ tn w s ∣ j - i := by
  rw [← mul_mod_zero hw, Nat.sub_mul]
  have hle : i * s ≤ j * s := Nat.mul_le_mul_right s h
  constructor
  · intro e
    exact Nat.sub_mod_eq_zero_of_mod_eq e.symm
  · intro e
    have e1 : j * s = i * s + (j * s - i * s) := by omega
    rw [e1, Nat.add_mod, e, Nat.add_zero, Nat.mod_mod]
theorem pl_inj {w s i j : Nat} (hw : 0 < w) (hi : i < tn w s) (hj : j < tn w s) (e : i * s % w = j * s % w) : i = j := by
  rcases Nat.le_total i j with h | h
  · have := Nat.eq_zero_of_dvd_of_lt ((mod_eq_iff hw h).mp e) (by omega)
    omega
  · have := Nat.eq_zero_of_dvd_of_lt ((mod_eq_iff hw h).mp e.symm) (by omega)
    omega
/-- the first k from 1 on with k * s a multiple of w -/
theorem turn_head {w s : Nat} (hw : 0 < w) : ((List.range w).filter fun i => (1 + i) * s % w == 0)[0]? = some (tn w s - 1) := by
  have h1 := tn_pos (s := s) hw
  have h2 := tn_le w s
  rw [← List.head?_eq_getElem?, List.head?_filter, List.find?_range_eq_some]
  refine ⟨?_, by simp; omega, fun j hj => ?_⟩
  · rw [beq_iff_eq, mul_mod_zero hw]
    exact ⟨1, by omega⟩
  · simp only [Bool.not_eq_true', beq_eq_false_iff_ne, ne_eq]
    rw [mul_mod_zero hw]
    intro h
    have := Nat.le_of_dvd (by omega) h
    omega

theorem step_wrap {w s i : Nat} (hs : s < w) : (i + 1) * s % w = if w ≤ i * s % w + s then i * s % w + s - w else i * s % w + s := by
  have hlt := Nat.mod_lt (i * s) (show 0 < w by omega)
  rw [Nat.add_mul, Nat.one_mul, Nat.add_mod, Nat.mod_eq_of_lt hs]
  split
  · rw [Nat.mod_eq_sub_mod (by assumption), Nat.mod_eq_of_lt (by omega)]
  · rw [Nat.mod_eq_of_lt (by omega)]
/-! ### which point lies at a place -/
def idx (w s m h : Nat) : Option Nat := (List.range m).find? fun k => k * s % w == h
theorem idx_some {w s m h k : Nat} (hw : 0 < w) (hm : m ≤ tn w s) : idx w s m h = some k ↔ k < m ∧ k * s % w = h := by
  unfold idx
  rw [List.find?_range_eq_some]
  constructor
  · rintro ⟨h1, h2, _⟩
    exact ⟨by simpa using h2, by simpa using h1⟩
  · rintro ⟨h1, rfl⟩
    refine ⟨by simp, by simpa using h1, fun j hj => ?_⟩
    simp only [Bool.not_eq_true', beq_eq_false_iff_ne, ne_eq]
    intro e
    have := pl_inj hw (by omega) (by omega) e
    omega
theorem idx_none {w s m h : Nat} : idx w s m h = none ↔ ∀ k, k < m → k * s % w ≠ h := by
  unfold idx
  rw [List.find?_range_eq_none]
  simp
theorem idx_succ {w s m h : Nat} (hw : 0 < w) (hm : m + 1 ≤ tn w s) : idx w s (m + 1) h = if h = m * s % w then some m else idx w s m h := by
  by_cases e : h = m * s % w
  · rw [if_pos e]
    exact (idx_some hw hm).mpr ⟨by omega, e.symm⟩
  · rw [if_neg e]
    cases q : idx w s m h with
    | none =>
      rw [idx_none] at q ⊢
      intro k hk
      by_cases hkm : k = m
      · subst hkm
        exact fun z => e z.symm
      · exact q k (by omega)
    | some k =>
      obtain ⟨h1, h2⟩ := (idx_some hw (by omega)).mp q
      exact (idx_some hw hm).mpr ⟨by omega, h2⟩

/-! ### the points round the ring -/
def ordP (w s m : Nat) : List (Nat × Nat) := (List.range w).filterMap fun h => (idx w s m h).map fun k => (h, k)
def ordL (w s m : Nat) : List Nat := (ordP w s m).map (·.2)
theorem mem_ordP {w s m : Nat} (hw : 0 < w) (hm : m ≤ tn w s) {p : Nat × Nat} : p ∈ ordP w s m ↔ p.2 < m ∧ p.1 = p.2 * s % w := by
  unfold ordP
  rw [List.mem_filterMap]
  constructor
  · rintro ⟨h, hh, e⟩
    obtain ⟨k, e1, rfl⟩ := Option.map_eq_some_iff.mp e
    obtain ⟨h1, h2⟩ := (idx_some hw hm).mp e1
    exact ⟨h1, h2.symm⟩
  · rintro ⟨h1, h2⟩
    obtain ⟨h, k⟩ := p
    simp only at h1 h2
    subst h2
    refine ⟨k * s % w, by simpa using Nat.mod_lt _ hw, ?_⟩
    rw [(idx_some hw hm).mpr ⟨h1, rfl⟩]
    rfl
theorem ordP_sorted (w s m : Nat) : (ordP w s m).Pairwise fun p q => p.1 < q.1 := by
  unfold ordP
  refine List.Pairwise.filterMap _ (fun a a' h b hb b' hb' => ?_) List.pairwise_lt_range
  obtain ⟨_, _, rfl⟩ := Option.map_eq_some_iff.mp hb
  obtain ⟨_, _, rfl⟩ := Option.map_eq_some_iff.mp hb'
  exact h
theorem nodup_of_lt {l : List (Nat × Nat)} (h : l.Pairwise fun p q => p.1 < q.1) : l.Nodup := h.imp fun {a b} z e => by rw [e] at z; exact Nat.lt_irrefl _ z
theorem ordP_perm {w s m : Nat} (hw : 0 < w) (hm : m ≤ tn w s) : (ordP w s m).Perm ((List.range m).map fun k => (k * s % w, k)) := by
  rw [List.perm_ext_iff_of_nodup (nodup_of_lt (ordP_sorted w s m))]
  · intro p
    rw [mem_ordP hw hm, List.mem_map]
    constructor
    · rintro ⟨h1, h2⟩
      exact ⟨p.2, by simpa using h1, by rw [← h2]⟩
    · rintro ⟨k, hk, rfl⟩
      exact ⟨by simpa using hk, rfl⟩
  · refine List.Pairwise.map _ (fun a b h e => h ?_) List.nodup_range
    exact (Prod.mk.inj e).2
theorem ordP_len {w s m : Nat} (hw : 0 < w) (hm : m ≤ tn w s) : (ordP w s m).length = m := by
  rw [(ordP_perm hw hm).length_eq]
  simp
theorem ordL_perm {w s m : Nat} (hw : 0 < w) (hm : m ≤ tn w s) : (ordL w s m).Perm (List.range m) := by
  unfold ordL
  have h := (ordP_perm hw hm).map (·.2)
  rw [List.map_map] at h
  have e : ((fun x : Nat × Nat => x.2) ∘ fun k => (k * s % w, k)) = id := rfl
  rwa [e, List.map_id] at h
theorem ordP_eq {w s m : Nat} (hw : 0 < w) (hm : m ≤ tn w s) : ordP w s m = (ordL w s m).map fun k => (k * s % w, k) := by
  unfold ordL
  rw [List.map_map]
  conv => lhs; rw [← List.map_id (ordP w s m)]
  apply List.map_congr_left
  intro p hp
  obtain ⟨_, h2⟩ := (mem_ordP hw hm).mp hp
  show p = (p.2 * s % w, p.2)
  rw [← h2]
theorem ordP_filter (w s m : Nat) : ((List.range w).filter fun i => (idx w s m i).isSome).map (fun i => (i, (idx w s m i).getD 0)) = ordP w s m := by
  unfold ordP
  induction List.range w with
  | nil => rfl
  | cons a r ih =>
    rw [List.filterMap_cons, List.filter_cons]
    cases q : idx w s m a with
    | none => simpa [q] using ih
    | some k => simp [q, ih]
end Rg
namespace Rg
/-! ### places and how far on the next point lies -/
def pl (w s k : Nat) : Nat := k * s % w
theorem pl_lt {w s k : Nat} (hw : 0 < w) : pl w s k < w := Nat.mod_lt _ hw
theorem pl_zero (w s : Nat) : pl w s 0 = 0 := by unfold pl; rw [Nat.zero_mul, Nat.zero_mod]
theorem pl_add {w s : Nat} (hw : 0 < w) (i j : Nat) : pl w s (i + j) = pl w s i + pl w s j ∨ pl w s (i + j) + w = pl w s i + pl w s j := by
  have h1 := pl_lt (s := s) (k := i) hw
  have h2 := pl_lt (s := s) (k := j) hw
  have e : pl w s (i + j) = (pl w s i + pl w s j) % w := by
    unfold pl
    rw [Nat.add_mul, Nat.add_mod]
  rw [e]
  by_cases h : pl w s i + pl w s j < w
  · exact .inl (Nat.mod_eq_of_lt h)
  · right
    rw [Nat.mod_eq_sub_mod (by omega), Nat.mod_eq_of_lt (by omega)]
    omega
theorem pl_sub {w s : Nat} (hw : 0 < w) {i j : Nat} (h : j ≤ i) : pl w s i = pl w s (i - j) + pl w s j ∨ pl w s i + w = pl w s (i - j) + pl w s j := by
  have := pl_add (s := s) hw (i - j) j
  rwa [Nat.sub_add_cancel h] at this
theorem pl_pos {w s k : Nat} (hw : 0 < w) (h0 : 0 < k) (hk : k < tn w s) : 0 < pl w s k := by
  rcases Nat.eq_zero_or_pos (pl w s k) with h | h
  · have := Nat.le_of_dvd h0 ((mul_mod_zero hw).mp h)
    omega
  · exact h
theorem pl_inj' {w s i j : Nat} (hw : 0 < w) (hi : i < tn w s) (hj : j < tn w s) (e : pl w s i = pl w s j) : i = j := pl_inj hw hi hj e
/-- how many places on from k the point n lies, 1 to w -/
def far (w s k n : Nat) : Nat := if k < n then pl w s (n - k) else w - pl w s (k - n)
theorem far_place {w s k n : Nat} (hw : 0 < w) (hk : k < tn w s) (hn : n < tn w s) : far w s k n = if pl w s k < pl w s n then pl w s n - pl w s k else pl w s n + w - pl w s k := by
  have h1 := pl_lt (s := s) (k := k) hw
  have h2 := pl_lt (s := s) (k := n) hw
  unfold far
  by_cases h : k < n
  · rw [if_pos h]
    have h3 := pl_sub (s := s) hw (Nat.le_of_lt h)
    have h4 := pl_lt (s := s) (k := n - k) hw
    have h5 := pl_pos (s := s) (k := n - k) hw (by omega) (by omega)
    split <;> omega
  · rw [if_neg h]
    have h3 := pl_sub (s := s) (i := k) (j := n) hw (by omega)
    have h4 := pl_lt (s := s) (k := k - n) hw
    by_cases e : k = n
    · subst e
      rw [Nat.sub_self, pl_zero, if_neg (Nat.lt_irrefl _)]
      omega
    · have h5 := pl_pos (s := s) (k := k - n) hw (by omega) (by omega)
      split <;> omega
theorem far_pos {w s k n : Nat} (hw : 0 < w) (hk : k < tn w s) (hn : n < tn w s) : 0 < far w s k n := by
  rw [far_place hw hk hn]
  have h1 := pl_lt (s := s) (k := k) hw
  split <;> omega
theorem far_le {w s k n : Nat} (hw : 0 < w) (hk : k < tn w s) (hn : n < tn w s) : far w s k n ≤ w := by
  rw [far_place hw hk hn]
  have h1 := pl_lt (s := s) (k := n) hw
  split <;> omega
theorem far_int {w s k n : Nat} (hw : 0 < w) (hk : k < tn w s) (hn : n < tn w s) : (((pl w s n : Nat) : Int) - (pl w s k : Nat) - 1) % (w : Int) + 1 = (far w s k n : Int) := by
  rw [far_place hw hk hn]
  have h1 := pl_lt (s := s) (k := k) hw
  have h2 := pl_lt (s := s) (k := n) hw
  split
  · rw [Int.emod_eq_of_lt (by omega) (by omega)]
    omega
  · rw [← Int.add_emod_right, Int.emod_eq_of_lt (by omega) (by omega)]
    omega
theorem far_inj {w s k n n' : Nat} (hw : 0 < w) (hk : k < tn w s) (hn : n < tn w s) (hn' : n' < tn w s) (e : far w s k n = far w s k n') : n = n' := by
  rw [far_place hw hk hn, far_place hw hk hn'] at e
  have h1 := pl_lt (s := s) (k := k) hw
  have h2 := pl_lt (s := s) (k := n) hw
  have h3 := pl_lt (s := s) (k := n') hw
  refine pl_inj' hw hn hn' ?_
  split at e <;> split at e <;> omega
/-- the gap of a point -/
def gapN (w s : Nat) : Nat → Nat → Nat
  | 0, _ => w
  | m + 1, k => min (gapN w s m k) (far w s k m)
theorem gapN_le {w s m k n : Nat} (hn : n < m) : gapN w s m k ≤ far w s k n := by
  induction m with
  | zero => omega
  | succ m ih =>
    show min (gapN w s m k) (far w s k m) ≤ _
    by_cases e : n = m
    · subst e
      exact Nat.min_le_right _ _
    · exact Nat.le_trans (Nat.min_le_left _ _) (ih (by omega))
theorem gapN_ex {w s m k : Nat} (hw : 0 < w) (hk : k < m) (hm : m ≤ tn w s) : ∃ n, n < m ∧ gapN w s m k = far w s k n := by
  have key : ∀ m, m ≤ tn w s → k < tn w s → (∃ n, n < m ∧ gapN w s m k = far w s k n) ∨ gapN w s m k = w := by
    intro m
    induction m with
    | zero => intro _ _; exact .inr rfl
    | succ m ih =>
      intro hm hk
      show (∃ n, n < m + 1 ∧ min (gapN w s m k) (far w s k m) = _) ∨ min (gapN w s m k) (far w s k m) = w
      have hf := far_le hw hk (show m < tn w s by omega)
      rcases ih (by omega) hk with ⟨n, h1, h2⟩ | h
      · left
        by_cases h : gapN w s m k ≤ far w s k m
        · exact ⟨n, by omega, by rw [Nat.min_eq_left h, h2]⟩
        · exact ⟨m, by omega, by rw [Nat.min_eq_right (by omega)]⟩
      · left
        exact ⟨m, by omega, by rw [h, Nat.min_eq_right hf]⟩
  rcases key m hm (by omega) with h | h
  · exact h
  · refine ⟨k, hk, ?_⟩
    rw [h]
    unfold far
    rw [if_neg (Nat.lt_irrefl _), Nat.sub_self, pl_zero]
    rfl
theorem gapN_eq {w s m k n : Nat} (hw : 0 < w) (hk : k < m) (hm : m ≤ tn w s) (hn : n < m) (h : ∀ n', n' < m → far w s k n ≤ far w s k n') : gapN w s m k = far w s k n := by
  obtain ⟨n', h1, h2⟩ := gapN_ex hw hk hm
  have h3 := gapN_le (w := w) (s := s) (k := k) hn
  have h4 := h n' h1
  omega
theorem gapN_b {w s m k : Nat} (hw : 0 < w) (hk : k < m) (hm : m ≤ tn w s) : 0 < gapN w s m k ∧ gapN w s m k ≤ w := by
  obtain ⟨n, h1, h2⟩ := gapN_ex hw hk hm
  rw [h2]
  exact ⟨far_pos hw (by omega) (by omega), far_le hw (by omega) (by omega)⟩
/-! ### the points in their order -/
theorem ordL_len {w s m : Nat} (hw : 0 < w) (hm : m ≤ tn w s) : (ordL w s m).length = m := by
  rw [(ordL_perm hw hm).length_eq]
  simp
theorem ordL_mem {w s m k : Nat} (hw : 0 < w) (hm : m ≤ tn w s) : k ∈ ordL w s m ↔ k < m := by
  rw [(ordL_perm hw hm).mem_iff]
  simp
theorem ordL_lt {w s m i : Nat} (hw : 0 < w) (hm : m ≤ tn w s) (hi : i < (ordL w s m).length) : (ordL w s m)[i] < m := (ordL_mem hw hm).mp (List.getElem_mem hi)
theorem ordL_sorted {w s m : Nat} (hw : 0 < w) (hm : m ≤ tn w s) : (ordL w s m).Pairwise fun i j => pl w s i < pl w s j := by
  have h := ordP_sorted w s m
  rw [ordP_eq hw hm, List.pairwise_map] at h
  exact h
theorem ordL_mono {w s m i j : Nat} (hw : 0 < w) (hm : m ≤ tn w s) (hij : i < j) (hj : j < (ordL w s m).length) : pl w s (ordL w s m)[i] < pl w s (ordL w s m)[j] :=
  List.pairwise_iff_getElem.mp (ordL_sorted hw hm) i j (by omega) hj hij
theorem ordL_zero {w s m : Nat} (hw : 0 < w) (hm : m ≤ tn w s) (h0 : 0 < m) : (ordL w s m)[0]'(by rw [ordL_len hw hm]; exact h0) = 0 := by
  have hl := ordL_len hw hm
  obtain ⟨i, hi, e⟩ := List.getElem_of_mem ((ordL_mem hw hm).mpr h0)
  rcases Nat.eq_zero_or_pos i with h | h
  · subst h
    exact e
  · have := ordL_mono hw hm h hi
    rw [e, pl_zero] at this
    omega
/-- the place behind the i-th point -/
def nxtP (w s m i : Nat) : Nat := if i + 1 < m then pl w s ((ordL w s m).getD (i + 1) 0) else w
theorem gap_ord {w s m i : Nat} (hw : 0 < w) (hm : m ≤ tn w s) (hi : i < m) : gapN w s m ((ordL w s m).getD i 0) = nxtP w s m i - pl w s ((ordL w s m).getD i 0) := by
  have hl := ordL_len hw hm
  have e1 : (ordL w s m).getD i 0 = (ordL w s m)[i]'(by omega) := by rw [List.getD_eq_getElem?_getD, List.getElem?_eq_getElem (by omega)]; rfl
  rw [e1]
  have hk := ordL_lt hw hm (i := i) (by omega)
  generalize hK : (ordL w s m)[i]'(by omega) = k at hk ⊢
  unfold nxtP
  by_cases h : i + 1 < m
  · rw [if_pos h]
    have e2 : (ordL w s m).getD (i + 1) 0 = (ordL w s m)[i + 1]'(by omega) := by rw [List.getD_eq_getElem?_getD, List.getElem?_eq_getElem (by omega)]; rfl
    rw [e2]
    have hn := ordL_lt hw hm (i := i + 1) (by omega)
    have hlt := ordL_mono hw hm (Nat.lt_succ_self i) (by omega)
    rw [hK] at hlt
    generalize hN : (ordL w s m)[i + 1]'(by omega) = n at hn hlt ⊢
    have hf : far w s k n = pl w s n - pl w s k := by rw [far_place hw (by omega) (by omega), if_pos hlt]
    rw [← hf]
    refine gapN_eq hw hk hm hn fun n' hn' => ?_
    obtain ⟨j, hj, e⟩ := List.getElem_of_mem ((ordL_mem hw hm).mpr hn')
    rw [hf, far_place hw (by omega) (by omega)]
    have h1 := pl_lt (s := s) (k := k) hw
    have h2 := pl_lt (s := s) (k := n) hw
    rcases Nat.lt_trichotomy j (i + 1) with h3 | h3 | h3
    · have : pl w s n' ≤ pl w s k := by
        rcases Nat.lt_or_ge j i with h4 | h4
        · have := ordL_mono hw hm h4 (by omega)
          rw [e, hK] at this
          omega
        · have : j = i := by omega
          subst this
          rw [e] at hK
          rw [hK]
          exact Nat.le_refl _
      rw [if_neg (by omega)]
      omega
    · subst h3
      rw [e] at hN
      subst hN
      rw [if_pos hlt]
      exact Nat.le_refl _
    · have := ordL_mono hw hm h3 hj
      rw [e, hN] at this
      rw [if_pos (by omega)]
      omega
  · rw [if_neg h]
    have h1 := pl_lt (s := s) (k := k) hw
    have hf : far w s k 0 = w - pl w s k := by
      unfold far
      rw [if_neg (by omega), Nat.sub_zero]
    rw [← hf]
    refine gapN_eq hw hk hm (by omega) fun n' hn' => ?_
    rw [hf, far_place hw (by omega) (by omega)]
    obtain ⟨j, hj, e⟩ := List.getElem_of_mem ((ordL_mem hw hm).mpr hn')
    have : pl w s n' ≤ pl w s k := by
      rcases Nat.lt_or_ge j i with h4 | h4
      · have := ordL_mono hw hm h4 (by omega)
        rw [e, hK] at this
        omega
      · have : j = i := by omega
        subst this
        rw [e] at hK
        rw [hK]
        exact Nat.le_refl _
    rw [if_neg (by omega)]
    omega
theorem nxtP_ge {w s m i : Nat} (hw : 0 < w) (hm : m ≤ tn w s) (hi : i < m) : pl w s ((ordL w s m).getD i 0) ≤ nxtP w s m i := by
  have hl := ordL_len hw hm
  unfold nxtP
  split
  · have h1 := ordL_mono hw hm (Nat.lt_succ_self i) (by omega)
    rw [List.getD_eq_getElem?_getD, List.getD_eq_getElem?_getD, List.getElem?_eq_getElem (by omega), List.getElem?_eq_getElem (by omega)]
    exact Nat.le_of_lt h1
  · exact Nat.le_of_lt (pl_lt hw)
def gapL (w s m : Nat) : List Nat := (ordL w s m).map (gapN w s m)
theorem gapL_len {w s m : Nat} (hw : 0 < w) (hm : m ≤ tn w s) : (gapL w s m).length = m := by
  unfold gapL
  rw [List.length_map, ordL_len hw hm]
theorem gapL_range {w s m : Nat} (hw : 0 < w) (hm : m ≤ tn w s) : gapL w s m = (List.range m).map fun i => nxtP w s m i - pl w s ((ordL w s m).getD i 0) := by
  have hl := ordL_len hw hm
  apply List.ext_getElem
  · rw [gapL_len hw hm]; simp
  · intro i h1 h2
    rw [gapL_len hw hm] at h1
    rw [List.getElem_map, List.getElem_range, ← gap_ord hw hm h1]
    have e : (gapL w s m)[i]? = some (gapN w s m ((ordL w s m).getD i 0)) := by
      unfold gapL
      rw [List.getElem?_map, List.getD_eq_getElem?_getD, List.getElem?_eq_getElem (by omega)]
      rfl
    rw [List.getElem?_eq_getElem (by rw [gapL_len hw hm]; exact h1)] at e
    exact Option.some.inj e
theorem gapL_mem {w s m g : Nat} (hw : 0 < w) (hm : m ≤ tn w s) : g ∈ gapL w s m ↔ ∃ k, k < m ∧ gapN w s m k = g := by
  unfold gapL
  rw [List.mem_map]
  constructor
  · rintro ⟨k, h1, h2⟩
    exact ⟨k, (ordL_mem hw hm).mp h1, h2⟩
  · rintro ⟨k, h1, h2⟩
    exact ⟨k, (ordL_mem hw hm).mpr h1, h2⟩
theorem gapL_sum {w s m : Nat} (hw : 0 < w) (hm : m ≤ tn w s) (h0 : 0 < m) : (gapL w s m).sum = w := by
  rw [gapL_range hw hm]
  have hl := ordL_len hw hm
  have at0 : pl w s ((ordL w s m).getD 0 0) = 0 := by
    have := ordL_zero hw hm h0
    rw [List.getD_eq_getElem?_getD, List.getElem?_eq_getElem (by omega)]
    show pl w s ((ordL w s m)[0]'(by omega)) = 0
    rw [this, pl_zero]
  have key : ∀ i, i ≤ m → ((List.range i).map fun i => nxtP w s m i - pl w s ((ordL w s m).getD i 0)).sum = if i = 0 then 0 else nxtP w s m (i - 1) := by
    intro i
    induction i with
    | zero => intro _; rfl
    | succ i ih =>
      intro hi
      rw [List.range_succ, List.map_append, List.sum_append, ih (by omega), if_neg (Nat.succ_ne_zero i)]
      show _ + (nxtP w s m i - pl w s ((ordL w s m).getD i 0) + 0) = nxtP w s m i
      have hle : pl w s ((ordL w s m).getD i 0) ≤ nxtP w s m i := by
        unfold nxtP
        split
        · have h1 := ordL_mono hw hm (Nat.lt_succ_self i) (by omega)
          rw [List.getD_eq_getElem?_getD, List.getD_eq_getElem?_getD, List.getElem?_eq_getElem (by omega), List.getElem?_eq_getElem (by omega)]
          exact Nat.le_of_lt h1
        · exact Nat.le_of_lt (pl_lt hw)
      by_cases e : i = 0
      · subst e
        rw [if_pos rfl, at0]
        omega
      · rw [if_neg e]
        have : nxtP w s m (i - 1) = pl w s ((ordL w s m).getD i 0) := by
          unfold nxtP
          rw [Nat.sub_add_cancel (by omega), if_pos (by omega)]
        omega
  rw [key m (Nat.le_refl _), if_neg (by omega)]
  unfold nxtP
  rw [if_neg (by omega)]
/-! ### lengths -/
def lenL (w s m : Nat) : List Nat := (List.range (w + 1)).filter fun g => decide (g ∈ gapL w s m)
theorem lenL_mem {w s m g : Nat} (hw : 0 < w) (hm : m ≤ tn w s) : g ∈ lenL w s m ↔ g ∈ gapL w s m := by
  unfold lenL
  rw [List.mem_filter]
  simp only [decide_eq_true_eq, List.mem_range]
  constructor
  · exact fun h => h.2
  · intro h
    obtain ⟨k, h1, rfl⟩ := (gapL_mem hw hm).mp h
    have := gapN_b hw h1 hm
    exact ⟨by omega, h⟩
theorem lenL_sorted (w s m : Nat) : (lenL w s m).Pairwise (· < ·) := List.pairwise_lt_range.filter _
theorem nodup_lt {l : List Nat} (h : l.Pairwise (· < ·)) : l.Nodup := h.imp fun {a b} (z : a < b) (e : a = b) => by omega
theorem sum_sub : ∀ (l D : List Nat), l.Nodup → (∀ k ∈ l, k ∈ D) → l.sum ≤ D.sum
  | [], _, _, _ => by simp
  | a :: r, D, hnd, hs => by
    have h1 := List.nodup_cons.mp hnd
    have ha := hs a List.mem_cons_self
    have h2 := sum_sub r (D.erase a) h1.2 fun k hk => (List.mem_erase_of_ne (fun e : k = a => h1.1 (by rw [← e]; exact hk))).mpr (hs k (List.mem_cons_of_mem _ hk))
    have h3 : D.sum = a + (D.erase a).sum := by
      have := (List.perm_cons_erase ha).sum_nat
      rw [this, List.sum_cons]
    rw [List.sum_cons]
    omega
theorem sum_big : ∀ (l : List Nat) (c : Nat), l.Pairwise (· < ·) → (∀ x ∈ l, c < x) → l.length * (2 * c + l.length + 1) ≤ 2 * l.sum
  | [], c, _, _ => by simp
  | a :: r, c, hp, hs => by
    have hp' := List.pairwise_cons.mp hp
    have ha := hs a List.mem_cons_self
    have ih := sum_big r a hp'.2 hp'.1
    rw [List.sum_cons, List.length_cons]
    have hm : r.length * (2 * (c + 1)) ≤ r.length * (2 * a) := Nat.mul_le_mul_left _ (by omega)
    generalize r.length = n at ih hm ⊢
    generalize r.sum = t at ih ⊢
    have e1 : (n + 1) * (2 * c + (n + 1) + 1) = n * (2 * (c + 1)) + n * n + 2 * c + n + 2 := by
      simp only [Nat.add_mul, Nat.mul_add, Nat.one_mul, Nat.mul_one]
      omega
    have e2 : n * (2 * a + n + 1) = n * (2 * a) + n * n + n := by
      simp only [Nat.mul_add, Nat.mul_one]
    omega
theorem lenL_few {w s m : Nat} (hw : 0 < w) (hm : m ≤ tn w s) (h0 : 0 < m) (h1 : w ≤ 1000) : (lenL w s m).length < 64 := by
  have hs := sum_sub (lenL w s m) (gapL w s m) (nodup_lt (lenL_sorted w s m)) fun k hk => (lenL_mem hw hm).mp hk
  rw [gapL_sum hw hm h0] at hs
  have hb := sum_big (lenL w s m) 0 (lenL_sorted w s m) fun x hx => by
    obtain ⟨k, h2, rfl⟩ := (gapL_mem hw hm).mp ((lenL_mem hw hm).mp hx)
    exact (gapN_b hw h2 hm).1
  rcases Nat.lt_or_ge (lenL w s m).length 64 with h | h
  · exact h
  · have : 64 * (2 * 0 + 64 + 1) ≤ (lenL w s m).length * (2 * 0 + (lenL w s m).length + 1) := Nat.mul_le_mul h (by omega)
    omega
theorem range_getD (l : List Nat) : (List.range l.length).map (fun i => l.getD i 0) = l := by
  apply List.ext_getElem
  · simp
  · intro i h1 h2
    rw [List.getElem_map, List.getElem_range, List.getD_eq_getElem?_getD, List.getElem?_eq_getElem h2]
    rfl
theorem range_filter (l : List Nat) (q : Nat → Bool) : ((List.range l.length).filter fun i => q (l.getD i 0)).map (fun i => l.getD i 0) = l.filter q := by
  conv => rhs; rw [← range_getD l, List.filter_map]
  rfl
/-- the points with the greatest gap -/
def wideL (w s m : Nat) : List Nat := (List.range m).filter fun k => gapN w s m k == (lenL w s m).getLastD 0
/-- the next point round the ring -/
def nx (w s m k : Nat) : Nat := (ordL w s m ++ ordL w s m).getD ((ordL w s m).idxOf k + 1) 0
theorem ordL_nodup {w s m : Nat} (hw : 0 < w) (hm : m ≤ tn w s) : (ordL w s m).Nodup := (ordL_perm hw hm).nodup_iff.mpr List.nodup_range
theorem ordL_idx {w s m i : Nat} (hw : 0 < w) (hm : m ≤ tn w s) (hi : i < m) : (ordL w s m).idxOf ((ordL w s m).getD i 0) = i := by
  have hl := ordL_len hw hm
  rw [List.getD_eq_getElem?_getD, List.getElem?_eq_getElem (by omega)]
  exact (ordL_nodup hw hm).idxOf_getElem i (by omega)
theorem gapL_last {w s m : Nat} (hw : 0 < w) (hm : m ≤ tn w s) (h0 : 0 < m) : (gapL w s m).getLastD 0 = gapN w s m ((ordL w s m).getLastD 0) := by
  have hl := ordL_len hw hm
  obtain ⟨r, x, e⟩ : ∃ r x, ordL w s m = r ++ [x] := by
    refine ⟨(ordL w s m).dropLast, (ordL w s m).getLast (fun z => ?_), (List.dropLast_concat_getLast _).symm⟩
    rw [z] at hl
    simp at hl
    omega
  unfold gapL
  rw [e, List.map_append]
  show (r.map (gapN w s m) ++ [gapN w s m x]).getLastD 0 = _
  rw [List.getLastD_concat, List.getLastD_concat]
theorem ordL_ne {w s m : Nat} (hw : 0 < w) (hm : m ≤ tn w s) (h0 : 0 < m) : ordL w s m ≠ [] := fun e => by
  have hl := ordL_len hw hm
  rw [e] at hl
  simp at hl
  omega
theorem ordL_last_lt {w s m : Nat} (hw : 0 < w) (hm : m ≤ tn w s) (h0 : 0 < m) : (ordL w s m).getLastD 0 < m := by
  have h := ordL_ne hw hm h0
  have e : (ordL w s m).getLastD 0 = (ordL w s m).getLast h := by
    rw [List.getLastD_eq_getLast?, List.getLast?_eq_getLast h]
    rfl
  rw [e]
  exact (ordL_mem hw hm).mp (List.getLast_mem h)
def rgt (w s m : Nat) : Nat × Nat := if m = 1 then (0, w) else ((ordL w s m).getD 1 0, gapN w s m 0)
def lft (w s m : Nat) : Nat × Nat := ((ordL w s m).getLastD 0, gapN w s m ((ordL w s m).getLastD 0))
theorem ordL_one {w s : Nat} (hw : 0 < w) : ordL w s 1 = [0] := by
  have hm : 1 ≤ tn w s := tn_pos hw
  have hl := ordL_len hw hm
  have h0 := ordL_zero hw hm (Nat.lt_succ_self 0)
  match h : ordL w s 1, hl with
  | [x], _ =>
    have : (ordL w s 1)[0]'(by rw [h]; exact Nat.lt_succ_self 0) = x := by simp [h]
    rw [h0] at this
    rw [this]
theorem gapN_one (w s : Nat) : gapN w s 1 0 = w := by
  show min w (far w s 0 0) = w
  unfold far
  rw [if_neg (Nat.lt_irrefl _), Nat.sub_self, pl_zero]
  exact Nat.min_self _
theorem lft_one {w s : Nat} (hw : 0 < w) : lft w s 1 = (0, w) := by
  unfold lft
  rw [ordL_one hw]
  show (0, gapN w s 1 0) = _
  rw [gapN_one]
theorem wideL_perm {w s m : Nat} (hw : 0 < w) (hm : m ≤ tn w s) : (wideL w s m).Perm ((ordL w s m).filter fun k => gapN w s m k == (lenL w s m).getLastD 0) := ((ordL_perm hw hm).filter _).symm
theorem wideL_sorted (w s m : Nat) : (wideL w s m).Pairwise (· < ·) := List.pairwise_lt_range.filter _
theorem gapL_getD {w s m i : Nat} (hw : 0 < w) (hm : m ≤ tn w s) (hi : i < m) : (gapL w s m).getD i 0 = gapN w s m ((ordL w s m).getD i 0) := by
  have hl := ordL_len hw hm
  unfold gapL
  rw [List.getD_eq_getElem?_getD, List.getElem?_map, List.getD_eq_getElem?_getD, List.getElem?_eq_getElem (by omega)]
  rfl
end Rg
/-! three lengths -/
namespace Rg
/-- what the points right and left of point 0 are: a the least place, b the greatest -/
structure RL (w s m a b : Nat) : Prop where
  w0 : 0 < w
  mt : m ≤ tn w s
  a0 : 1 ≤ a
  am : a < m
  b0 : 1 ≤ b
  bm : b < m
  mn : ∀ j, 1 ≤ j → j < m → pl w s a ≤ pl w s j
  mx : ∀ j, j < m → pl w s j ≤ pl w s b
section
variable {w s m a b : Nat}
theorem RL.pos (h : RL w s m a b) {j : Nat} (h0 : 1 ≤ j) (h1 : j < m) : 0 < pl w s j := pl_pos h.w0 h0 (Nat.lt_of_lt_of_le h1 h.mt)
theorem RL.lt (h : RL w s m a b) (j : Nat) : pl w s j < w := pl_lt h.w0
theorem RL.inj (h : RL w s m a b) {i j : Nat} (hi : i < m) (hj : j < m) (e : pl w s i = pl w s j) : i = j := pl_inj' h.w0 (Nat.lt_of_lt_of_le hi h.mt) (Nat.lt_of_lt_of_le hj h.mt) e
theorem RL.sum (h : RL w s m a b) : m ≤ a + b := by
  rcases Nat.lt_or_ge (a + b) m with z | z
  · exfalso
    have h1 := h.mx (a + b) z
    have h2 := h.mn (a + b) (by have := h.a0; omega) z
    have h3 := h.pos h.a0 h.am
    have h4 := h.lt b
    have h5 := pl_add (s := s) h.w0 a b
    omega
  · exact z
/-- the next point by its number -/
def nx3 (m a b k : Nat) : Nat := if k + a < m then k + a else if b ≤ k then k - b else k + a - b
def gp3 (w s m a b k : Nat) : Nat := if k + a < m then pl w s a else if b ≤ k then w - pl w s b else pl w s a + (w - pl w s b)
theorem RL.nx_lt (h : RL w s m a b) {k : Nat} (hk : k < m) : nx3 m a b k < m := by
  have := h.sum
  have := h.am
  have := h.bm
  have := h.b0
  have := h.a0
  unfold nx3
  split
  · omega
  · split
    · omega
    · omega
theorem RL.far_nx (h : RL w s m a b) {k : Nat} (hk : k < m) : far w s k (nx3 m a b k) = gp3 w s m a b k := by
  have hs := h.sum
  have ha := h.a0
  have hb := h.b0
  have ham := h.am
  have hbm := h.bm
  unfold nx3 gp3 far
  split
  · rw [if_pos (by omega), Nat.add_sub_cancel_left]
  · split
    · rw [if_neg (by omega), show k - (k - b) = b by omega]
    · rename_i h1 h2
      by_cases hab : b < a
      · rw [if_pos (by omega), show k + a - b - k = a - b by omega]
        have h3 := pl_sub (s := s) h.w0 (Nat.le_of_lt hab)
        have h4 := h.mn (a - b) (by omega) (by omega)
        have h5 := h.pos hb hbm
        have h6 := h.lt b
        omega
      · rw [if_neg (by omega), show k - (k + a - b) = b - a by omega]
        have h3 := pl_sub (s := s) h.w0 (show a ≤ b by omega)
        have h4 := h.mx a ham
        have h5 := h.lt b
        have h6 := h.lt (b - a)
        omega
theorem RL.far_le (h : RL w s m a b) {k n : Nat} (hk : k < m) (hn : n < m) : gp3 w s m a b k ≤ far w s k n := by
  have hs := h.sum
  have ha := h.a0
  have hb := h.b0
  have ham := h.am
  have hbm := h.bm
  have hla := h.lt a
  have hlb := h.lt b
  have hpa := h.pos ha ham
  unfold gp3 far
  split
  · rename_i h1
    split
    · exact h.mn (n - k) (by omega) (by omega)
    · by_cases hd : k - n = 0
      · rw [hd, pl_zero]
        omega
      · have h3 := pl_add (s := s) h.w0 (k - n) a
        have h4 := h.mn (k - n + a) (by omega) (by omega)
        have h5 := h.lt (k - n)
        have h6 := h.lt (k - n + a)
        omega
  · split
    · rename_i h1 h2
      split
      · have h3 := pl_add (s := s) h.w0 (n - k) b
        have h4 := h.mx (n - k + b) (by omega)
        have h5 := h.pos (show 1 ≤ n - k by omega) (by omega)
        have h6 := h.lt (n - k)
        omega
      · have h4 := h.mx (k - n) (by omega)
        omega
    · rename_i h1 h2
      split
      · have h3 := pl_sub (s := s) h.w0 (show n - k ≤ a by omega)
        have h4 := h.mn (n - k) (by omega) (by omega)
        have h5 := h.mx (a - (n - k)) (by omega)
        have h6 : pl w s (n - k) ≠ pl w s a := fun z => by
          have := h.inj (by omega) ham z
          omega
        omega
      · have h3 := pl_sub (s := s) h.w0 (show k - n ≤ b by omega)
        have h4 := h.mn (b - (k - n)) (by omega) (by omega)
        have h5 := h.mx (k - n) (by omega)
        have h6 := h.lt (b - (k - n))
        omega
theorem RL.gap (h : RL w s m a b) {k : Nat} (hk : k < m) : gapN w s m k = gp3 w s m a b k := by
  rw [← h.far_nx hk]
  exact gapN_eq h.w0 hk h.mt (h.nx_lt hk) fun n hn => by
    rw [h.far_nx hk]
    exact h.far_le hk hn
end
/-- the next point round the ring is the nearest one on -/
theorem nx_far {w s m k : Nat} (hw : 0 < w) (hm : m ≤ tn w s) (hk : k < m) : nx w s m k < m ∧ far w s k (nx w s m k) = gapN w s m k := by
  have hl := ordL_len hw hm
  obtain ⟨i, hi, rfl⟩ := List.getElem_of_mem ((ordL_mem hw hm).mpr hk)
  have hi' : i < m := by omega
  have eg : (ordL w s m).getD i 0 = (ordL w s m)[i] := by rw [List.getD_eq_getElem?_getD, List.getElem?_eq_getElem hi]; rfl
  have e1 : nx w s m (ordL w s m)[i] = (ordL w s m ++ ordL w s m).getD (i + 1) 0 := by
    unfold nx
    rw [← eg, ordL_idx hw hm hi']
  have e2 := gap_ord hw hm hi'
  rw [eg] at e2
  rw [e1, e2]
  unfold nxtP
  by_cases h1 : i + 1 < m
  · have e3 : (ordL w s m ++ ordL w s m).getD (i + 1) 0 = (ordL w s m)[i + 1]'(by omega) := by
      rw [List.getD_eq_getElem?_getD, List.getElem?_append_left (by omega), List.getElem?_eq_getElem (by omega)]
      rfl
    have e4 : (ordL w s m).getD (i + 1) 0 = (ordL w s m)[i + 1]'(by omega) := by
      rw [List.getD_eq_getElem?_getD, List.getElem?_eq_getElem (by omega)]
      rfl
    have hlt := ordL_lt hw hm (show i + 1 < (ordL w s m).length by omega)
    have hmo := ordL_mono hw hm (Nat.lt_succ_self i) (show i + 1 < (ordL w s m).length by omega)
    rw [e3, e4, if_pos h1]
    refine ⟨hlt, ?_⟩
    rw [far_place hw (by omega) (by omega), if_pos hmo]
  · have e3 : (ordL w s m ++ ordL w s m).getD (i + 1) 0 = 0 := by
      have h0 := ordL_zero hw hm (by omega)
      rw [List.getD_eq_getElem?_getD, List.getElem?_append_right (by omega), show i + 1 - (ordL w s m).length = 0 by omega, List.getElem?_eq_getElem (by omega), h0]
      rfl
    rw [e3, if_neg h1]
    refine ⟨by omega, ?_⟩
    rw [far_place hw (by omega) (by omega), pl_zero, if_neg (by omega), Nat.zero_add]
theorem RL.next {w s m a b k : Nat} (h : RL w s m a b) (hk : k < m) : nx w s m k = nx3 m a b k := by
  obtain ⟨h1, h2⟩ := nx_far h.w0 h.mt hk
  refine far_inj (k := k) h.w0 (Nat.lt_of_lt_of_le hk h.mt) (Nat.lt_of_lt_of_le h1 h.mt) (Nat.lt_of_lt_of_le (h.nx_lt hk) h.mt) ?_
  rw [h2, h.far_nx hk, h.gap hk]
/-- right and left are what they should be -/
theorem rl_ok {w s m : Nat} (hw : 0 < w) (hm : m ≤ tn w s) (h2 : 2 ≤ m) : RL w s m (rgt w s m).1 (lft w s m).1 ∧ (rgt w s m).2 = pl w s (rgt w s m).1 ∧ (lft w s m).2 = w - pl w s (lft w s m).1 := by
  have hl := ordL_len hw hm
  have h0 := ordL_zero hw hm (by omega)
  have ea : (rgt w s m).1 = (ordL w s m)[1]'(by omega) := by
    unfold rgt
    rw [if_neg (by omega)]
    show (ordL w s m).getD 1 0 = _
    rw [List.getD_eq_getElem?_getD, List.getElem?_eq_getElem (by omega)]
    rfl
  have hne := ordL_ne hw hm (by omega)
  have eb : (lft w s m).1 = (ordL w s m)[m - 1]'(by omega) := by
    unfold lft
    show (ordL w s m).getLastD 0 = _
    rw [List.getLastD_eq_getLast?, List.getLast?_eq_getElem?, List.getElem?_eq_getElem (by omega)]
    simp [hl]
  have key : ∀ j, j < m → ∃ i, ∃ hi : i < (ordL w s m).length, (ordL w s m)[i] = j := fun j hj => List.getElem_of_mem ((ordL_mem hw hm).mpr hj)
  have mono : ∀ i j (hi : i < (ordL w s m).length) (hj : j < (ordL w s m).length), i ≤ j → pl w s (ordL w s m)[i] ≤ pl w s (ordL w s m)[j] := fun i j hi hj hij => by
    rcases Nat.lt_or_eq_of_le hij with z | z
    · exact Nat.le_of_lt (ordL_mono hw hm z hj)
    · subst z; exact Nat.le_refl _
  have hlt1 := ordL_lt hw hm (show 1 < (ordL w s m).length by omega)
  have hltm := ordL_lt hw hm (show m - 1 < (ordL w s m).length by omega)
  have hp1 := ordL_mono hw hm (show 0 < 1 by decide) (show 1 < (ordL w s m).length by omega)
  have hpm := ordL_mono hw hm (show 0 < m - 1 by omega) (show m - 1 < (ordL w s m).length by omega)
  rw [h0, pl_zero] at hp1 hpm
  have n1 : ∀ x, 0 < pl w s x → 1 ≤ x := fun x hx => by
    rcases Nat.eq_zero_or_pos x with z | z
    · rw [z, pl_zero] at hx; omega
    · exact z
  have hRL : RL w s m (rgt w s m).1 (lft w s m).1 := by
    rw [ea, eb]
    refine ⟨hw, hm, n1 _ hp1, hlt1, n1 _ hpm, hltm, fun j hj hjm => ?_, fun j hj => ?_⟩
    · obtain ⟨i, hi, rfl⟩ := key j hjm
      refine mono 1 i (by omega) hi ?_
      rcases Nat.eq_zero_or_pos i with z | z
      · subst z; omega
      · exact z
    · obtain ⟨i, hi, rfl⟩ := key j hj
      exact mono i (m - 1) hi (by omega) (by omega)
  refine ⟨hRL, ?_, ?_⟩
  · have : (rgt w s m).2 = gapN w s m 0 := by unfold rgt; rw [if_neg (by omega)]
    rw [this, hRL.gap (by omega)]
    unfold gp3
    rw [if_pos (by have := hRL.am; omega)]
  · have : (lft w s m).2 = gapN w s m (lft w s m).1 := rfl
    rw [this, hRL.gap hRL.bm]
    unfold gp3
    have h3 := hRL.sum
    have h4 := hRL.bm
    split
    · rename_i h5
      have h6 := pl_add (s := s) hw (lft w s m).1 (rgt w s m).1
      have h7 := hRL.mx _ h5
      have h8 := hRL.mn ((lft w s m).1 + (rgt w s m).1) (by omega) h5
      have h9 := hRL.lt (lft w s m).1
      have h10 := hRL.pos hRL.a0 hRL.am
      omega
    · rw [if_pos (Nat.le_refl _)]
/-- all gaps, by how many -/
theorem gap_perm {w s m a b : Nat} (h : RL w s m a b) : (gapL w s m).Perm (List.replicate (m - a) (pl w s a) ++ (List.replicate (a + b - m) (pl w s a + (w - pl w s b)) ++ List.replicate (m - b) (w - pl w s b))) := by
  have h1 : (gapL w s m).Perm ((List.range m).map (gapN w s m)) := (ordL_perm h.w0 h.mt).map _
  refine h1.trans ?_
  have e : (List.range m).map (gapN w s m) = List.replicate (m - a) (pl w s a) ++ (List.replicate (a + b - m) (pl w s a + (w - pl w s b)) ++ List.replicate (m - b) (w - pl w s b)) := by
    have hs := h.sum
    have ha := h.a0
    have hb := h.b0
    have ham := h.am
    have hbm := h.bm
    apply List.ext_getElem
    · simp; omega
    · intro i h2 h3
      have hi : i < m := by simpa using h2
      rw [List.getElem_map, List.getElem_range, h.gap hi]
      unfold gp3
      split
      · rw [List.getElem_append_left (by simp; omega), List.getElem_replicate]
      · rw [List.getElem_append_right (by simp; omega)]
        split
        · rw [List.getElem_append_right (by simp; omega), List.getElem_replicate]
        · rw [List.getElem_append_left (by simp; omega), List.getElem_replicate]
  rw [e]
theorem gap_mem3 {w s m a b g : Nat} (h : RL w s m a b) : g ∈ gapL w s m ↔ g = pl w s a ∨ g = w - pl w s b ∨ (m < a + b ∧ g = pl w s a + (w - pl w s b)) := by
  have ham := h.am
  have hbm := h.bm
  rw [(gap_perm h).mem_iff, List.mem_append, List.mem_append, List.mem_replicate, List.mem_replicate, List.mem_replicate]
  constructor
  · rintro (⟨_, e⟩ | ⟨h1, e⟩ | ⟨_, e⟩)
    · exact .inl e
    · exact .inr (.inr ⟨by omega, e⟩)
    · exact .inr (.inl e)
  · rintro (e | e | ⟨h1, e⟩)
    · exact .inl ⟨by omega, e⟩
    · exact .inr (.inr ⟨by omega, e⟩)
    · exact .inr (.inl ⟨by omega, e⟩)
theorem sorted_ext : ∀ {l r : List Nat}, l.Pairwise (· < ·) → r.Pairwise (· < ·) → (∀ x, x ∈ l ↔ x ∈ r) → l = r := by
  intro l r hl hr hm
  refine List.Perm.eq_of_pairwise (le := (· < ·)) (fun a b _ _ h1 h2 => absurd (Nat.lt_trans h1 h2) (Nat.lt_irrefl _)) hl hr ?_
  exact (List.perm_ext_iff_of_nodup (nodup_lt hl) (nodup_lt hr)).mpr hm
/-- the lengths in order -/
def len3 (A B : Nat) (t : Bool) : List Nat := (if A < B then [A, B] else if B < A then [B, A] else [A]) ++ (if t then [A + B] else [])
theorem len3_ok {A B : Nat} {t : Bool} (hA : 0 < A) (hB : 0 < B) : (len3 A B t).Pairwise (· < ·) ∧ ∀ x, x ∈ len3 A B t ↔ x = A ∨ x = B ∨ (t = true ∧ x = A + B) := by
  unfold len3
  cases t
  · simp only [Bool.false_eq_true, if_false, List.append_nil]
    split
    · refine ⟨by simp; omega, fun x => by simp⟩
    · split
      · refine ⟨by simp; omega, fun x => by simp; omega⟩
      · refine ⟨by simp, fun x => by simp; omega⟩
  · simp only [if_true]
    split
    · refine ⟨by simp; omega, fun x => by simp⟩
    · split
      · refine ⟨by simp; omega, fun x => by simp; omega⟩
      · refine ⟨by simp; omega, fun x => by simp; omega⟩
theorem lenL_three {w s m a b : Nat} (h : RL w s m a b) : lenL w s m = len3 (pl w s a) (w - pl w s b) (decide (m < a + b)) := by
  have hp := h.pos h.a0 h.am
  have hq := h.lt b
  obtain ⟨h1, h2⟩ := len3_ok (A := pl w s a) (B := w - pl w s b) (t := decide (m < a + b)) hp (by omega)
  refine sorted_ext (lenL_sorted w s m) h1 fun x => ?_
  rw [lenL_mem h.w0 h.mt, gap_mem3 h, h2, decide_eq_true_eq]
theorem lenL_one {w s : Nat} (hw : 0 < w) : lenL w s 1 = [w] := by
  have hm : 1 ≤ tn w s := tn_pos hw
  refine sorted_ext (lenL_sorted w s 1) (by simp) fun x => ?_
  rw [lenL_mem hw hm]
  unfold gapL
  rw [ordL_one hw]
  simp only [List.map_cons, List.map_nil]
  rw [gapN_one]
end Rg
namespace Py
open PySem PySem.Spec PyProof.Rows L2 Rg
/-! what each def is worth -/
def cellN (ns : List Int) (k : Nat) : Int := (ns[k]?).getD 0
def T__law_cell_at : FSpec := fun rs O Φ => ∃ (ns : List Int) (k : Nat), rs = [.s ns, vI k] ∧ Φ (vI (cellN ns k)) O
def mixD (ns : List Int) (k : Nat) : Int := (cellN ns k + 7919 * k + 1) * 48271 % 2147483647
def mixI (ns : List Int) (k : Nat) : Int := (mixD ns k * mixD ns k + 7 * mixD ns k + k) % 2147483629
def mixN (ns : List Int) (k : Nat) : Nat := (mixI ns k).toNat
theorem mixD_lt (ns : List Int) (k : Nat) : 0 ≤ mixD ns k ∧ mixD ns k < 2147483647 := by unfold mixD; omega
theorem mixN_cast (ns : List Int) (k : Nat) : (mixN ns k : Int) = mixI ns k := by
  unfold mixN mixI
  omega
theorem mixN_lt (ns : List Int) (k : Nat) : mixN ns k < 2147483629 := by
  have h := mixN_cast ns k
  unfold mixI at h
  omega
def T__law_mixed : FSpec := fun rs O Φ => ∃ (ns : List Int) (k : Nat), rs = [.s ns, vI k] ∧ Φ (vI (mixN ns k)) O
def drawD (n : Nat) (k : Nat) : Nat := (n + 104729 * k + 17) * 69621 % 2147483647
def drawN (n : Nat) (k : Nat) : Nat := (drawD n k * drawD n k + 3 * drawD n k + k) % 2147483629
theorem drawN_lt (n k : Nat) : drawN n k < 2147483629 := Nat.mod_lt _ (by decide)
def T__law_drawn : FSpec := pure1 fun ds d => ∃ n k : Nat, ds = [.int n, .int k] ∧ d = .int (drawN n k)
def T__law_turn : FSpec := pure1 fun ds d => ∃ w s : Nat, 0 < w ∧ w ≤ 1000 ∧ s ≤ 1000 ∧ ds = [.int w, .int s] ∧ d = .int (tn w s)
def prW (n most : Nat) : Nat := 2 + n % (most - 1)
def prS (n most : Nat) : Nat := 1 + n / 128 % (prW n most - 1)
def prM (n most : Nat) : Nat := 1 + n / 16384 % tn (prW n most) (prS n most)
theorem prW_b {n most : Nat} (h : 2 ≤ most) : 2 ≤ prW n most ∧ prW n most ≤ most := by
  unfold prW
  have := Nat.mod_lt n (show 0 < most - 1 by omega)
  omega
theorem prS_b {n most : Nat} (h : 2 ≤ most) : 1 ≤ prS n most ∧ prS n most < prW n most := by
  have h1 := prW_b (n := n) h
  unfold prS
  have := Nat.mod_lt (n / 128) (show 0 < prW n most - 1 by omega)
  omega
theorem prM_b {n most : Nat} (h : 2 ≤ most) : 1 ≤ prM n most ∧ prM n most ≤ tn (prW n most) (prS n most) := by
  have h1 := prW_b (n := n) h
  unfold prM
  have := Nat.mod_lt (n / 16384) (tn_pos (w := prW n most) (s := prS n most) (by omega))
  omega
def T__law_pair : FSpec := pure1 fun ds d => ∃ n most : Nat, 2 ≤ most ∧ most ≤ 1000 ∧ ds = [.int n, .int most] ∧ d = .tuple [.int (prW n most), .int (prS n most)]
def rowD (w s m : Nat) : PyData := .tuple [.int w, .int s, .int m]
def T__law_row : FSpec := pure1 fun ds d => ∃ n most : Nat, 2 ≤ most ∧ most ≤ 1000 ∧ ds = [.int n, .int most] ∧ d = rowD (prW n most) (prS n most) (prM n most)
structure Row (w s m : Nat) : Prop where
  w1 : w ≤ 1000
  s0 : 1 ≤ s
  sw : s < w
  m0 : 1 ≤ m
  m1 : m ≤ tn w s
theorem Row.w0 {w s m : Nat} (h : Row w s m) : 0 < w := Nat.lt_of_le_of_lt (Nat.zero_le _) h.sw
theorem Row.s1 {w s m : Nat} (h : Row w s m) : s ≤ 1000 := Nat.le_trans (Nat.le_of_lt h.sw) h.w1
theorem Row.mw {w s m : Nat} (h : Row w s m) : m ≤ w := Nat.le_trans h.m1 (tn_le w s)
theorem pr_row {n most : Nat} (h : 2 ≤ most) (h2 : most ≤ 1000) : Row (prW n most) (prS n most) (prM n most) := by
  have a := prW_b (n := n) h
  have b := prS_b (n := n) h
  have c := prM_b (n := n) h
  exact ⟨by omega, b.1, b.2, c.1, c.2⟩
abbrev npD (p : Nat × Nat) : PyData := .tuple [.int p.1, .int p.2]
abbrev ipD (p : Nat × Nat) : Int × Int := (p.1, p.2)
def T_place : FSpec := pure1 fun ds d => ∃ w s m k : Nat, 0 < w ∧ w ≤ 1000 ∧ s ≤ 1000 ∧ ds = [rowD w s m, .int k] ∧ d = .int ((k * s % w : Nat) : Int)
def T_order : FSpec := pureT fun ds fs => ∃ w s m : Nat, Row w s m ∧ ds = [rowD w s m] ∧ fs = (ordL w s m).map nD
def T_gap_after : FSpec := pure1 fun ds d => ∃ w s m k : Nat, Row w s m ∧ k < m ∧ ds = [rowD w s m, .int k] ∧ d = .int (gapN w s m k)
def T_gaps : FSpec := pureT fun ds fs => ∃ w s m : Nat, Row w s m ∧ ds = [rowD w s m] ∧ fs = (gapL w s m).map nD
def T__law_gaps : FSpec := T_gaps
def T_lengths : FSpec := pure1 fun ds d => ∃ w s m : Nat, Row w s m ∧ ds = [rowD w s m] ∧ d = .tuple ((lenL w s m).map nD)
def cntP (w s m : Nat) : List (Nat × Nat) := (lenL w s m).map fun g => (g, (gapL w s m).count g)
def T_counts : FSpec := pure1 fun ds d => ∃ w s m : Nat, Row w s m ∧ ds = [rowD w s m] ∧ d = .tuple ((cntP w s m).map npD)
def T_widest : FSpec := pure1 fun ds d => ∃ w s m : Nat, Row w s m ∧ ds = [rowD w s m] ∧ d = .tuple ((wideL w s m).map nD)
def oD : Option Nat → PyData
  | some n => .int n
  | none => .none
def T_who : FSpec := pure1 fun ds d => ∃ w s m h : Nat, Row w s m ∧ ds = [rowD w s m, .int h] ∧ d = oD (idx w s m h)
def T__law_order : FSpec := pure1 fun ds d => ∃ w s m : Nat, Row w s m ∧ ds = [rowD w s m] ∧ d = .list ((ordP w s m).map npD)

theorem beq_nat {i : Int} (n m : Nat) (h : i = (n : Int)) : (i == (m : Int)) = (n == m) := by
  subst h
  simp only [Bool.beq_eq_decide_eq]
  congr 1
  simp only [eq_iff_iff]
  omega
def T_right : FSpec := pure1 fun ds d => ∃ w s m : Nat, Row w s m ∧ ds = [rowD w s m] ∧ d = npD (rgt w s m)
def T_left : FSpec := pure1 fun ds d => ∃ w s m : Nat, Row w s m ∧ ds = [rowD w s m] ∧ d = npD (lft w s m)
def T_next_point : FSpec := pure1 fun ds d => ∃ w s m k : Nat, Row w s m ∧ k < m ∧ ds = [rowD w s m, .int k] ∧ d = nD (nx w s m k)
def T_jump : FSpec := pure1 fun ds d => ∃ w s m k : Nat, Row w s m ∧ k < m ∧ ds = [rowD w s m, .int k] ∧ d = .int ((nx w s m k : Int) - (k : Int))
theorem atI_lastN {l : List Nat} (h : l ≠ []) : atI (l.map nD) (-1) = some (nD (l.getLastD 0)) := by
  obtain ⟨r, x, rfl⟩ : ∃ r x, l = r ++ [x] := ⟨l.dropLast, l.getLast h, (List.dropLast_concat_getLast h).symm⟩
  rw [List.map_append]
  show atI (r.map nD ++ [nD x]) (-1) = _
  rw [atI_last, List.getLastD_concat]
theorem atI_N {l : List Nat} {i : Nat} (h : i < l.length) : atI (l.map nD) (i : Int) = some (nD (l.getD i 0)) := by
  refine atI_nat ?_
  rw [List.getElem?_map, List.getElem?_eq_getElem h, List.getD_eq_getElem?_getD, List.getElem?_eq_getElem h]
  rfl
theorem lenL_ne {w s m : Nat} (h : Row w s m) : lenL w s m ≠ [] := fun e => by
  have h1 : gapN w s m 0 ∈ lenL w s m := (lenL_mem h.w0 h.m1).mpr ((gapL_mem h.w0 h.m1).mpr ⟨0, h.m0, rfl⟩)
  rw [e] at h1
  cases h1
theorem ordP_getD {w s m i : Nat} (h : Row w s m) (hi : i < m) : ((ordP w s m).map npD)[i]? = some (npD (pl w s ((ordL w s m).getD i 0), (ordL w s m).getD i 0)) := by
  rw [ordP_eq h.w0 h.m1, List.map_map, List.getElem?_map, List.getElem?_eq_getElem (by rw [ordL_len h.w0 h.m1]; exact hi), List.getD_eq_getElem?_getD, List.getElem?_eq_getElem (by rw [ordL_len h.w0 h.m1]; exact hi)]
  rfl
/-! dicts -/
theorem dval_nil (k : Int) : dval [] k = none := rfl
theorem dval_cons (j : Int) (d : PyData) (kvs : List (Int × PyData)) (k : Int) : dval ((j, d) :: kvs) k = if j = k then some d else dval kvs k := by
  unfold dval
  rw [List.find?_cons]
  by_cases h : j = k
  · simp [h]
  · simp [h]
theorem dval_any (kvs : List (Int × PyData)) (k : Int) : (kvs.any fun kv => decide (kv.1 = k)) = (dval kvs k).isSome := by
  induction kvs with
  | nil => rfl
  | cons p r ih =>
    obtain ⟨j, d⟩ := p
    rw [List.any_cons, dval_cons, ih]
    by_cases h : j = k
    · simp [h]
    · simp [h]
theorem dval_app (kvs : List (Int × PyData)) (k : Int) (v : PyData) (j : Int) : dval (kvs ++ [(k, v)]) j = (dval kvs j).or (if k = j then some v else none) := by
  induction kvs with
  | nil => rw [List.nil_append, dval_cons, dval_nil]; simp
  | cons p r ih =>
    obtain ⟨i, d⟩ := p
    rw [List.cons_append, dval_cons, dval_cons, ih]
    split <;> simp
theorem dval_repl (kvs : List (Int × PyData)) (k : Int) (v : PyData) (j : Int) : dval (kvs.map fun kv => if kv.1 = k then (kv.1, v) else kv) j = (dval kvs j).map fun x => if j = k then v else x := by
  induction kvs with
  | nil => rfl
  | cons p r ih =>
    obtain ⟨i, d⟩ := p
    rw [List.map_cons]
    by_cases h : i = k
    · subst h
      simp only [if_true]
      rw [dval_cons, dval_cons, ih]
      by_cases hj : i = j
      · subst hj; simp
      · simp [hj]
    · simp only [if_neg h]
      rw [dval_cons, dval_cons, ih]
      by_cases hj : i = j
      · subst hj; simp [h]
      · simp [hj]
theorem dval_put (kvs : List (Int × PyData)) (k : Int) (v : PyData) (j : Int) : dval (dput kvs k v) j = if j = k then some v else dval kvs j := by
  unfold dput
  rw [dval_any]
  by_cases h : (dval kvs k).isSome = true
  · rw [if_pos h, dval_repl]
    by_cases hj : j = k
    · subst hj
      obtain ⟨x, hx⟩ := Option.isSome_iff_exists.mp h
      simp [hx]
    · simp [hj]
  · rw [if_neg h, dval_app]
    by_cases hj : j = k
    · subst hj
      have : dval kvs j = none := by
        cases q : dval kvs j with
        | none => rfl
        | some x => rw [q] at h; simp at h
      simp [this]
    · have hj' : ¬ k = j := fun z => hj z.symm
      simp [hj, hj']
theorem dmerge_val : ∀ (more kvs : List (Int × PyData)) (j : Int), (more.map (·.1)).Nodup → (∀ k ∈ more.map (·.1), dval kvs k = none) → dval (dmerge kvs more) j = (dval more j).or (dval kvs j)
  | [], kvs, j, _, _ => by simp [dmerge, dval_nil]
  | (k, v) :: more, kvs, j, hn, hd => by
    have hn' := List.nodup_cons.mp hn
    have e : dmerge kvs ((k, v) :: more) = dmerge (dput kvs k v) more := rfl
    rw [e, dmerge_val more (dput kvs k v) j hn'.2 (fun i hi => ?_), dval_put, dval_cons]
    · by_cases hj : j = k
      · subst hj
        have : dval more j = none := by
          cases q : dval more j with
          | none => rfl
          | some x =>
            exfalso
            apply hn'.1
            have h2 : (more.any fun kv => decide (kv.1 = j)) = true := by rw [dval_any, q]; rfl
            obtain ⟨p, hp, e⟩ := List.any_eq_true.mp h2
            exact List.mem_map.mpr ⟨p, hp, by simpa using e⟩
        simp [this]
      · have hj' : ¬ k = j := fun z => hj z.symm
        simp [hj, hj']
    · rw [dval_put, if_neg (fun z => hn'.1 (by rw [← z]; exact hi))]
      exact hd i (List.mem_cons_of_mem _ hi)
theorem dval_ordP {w s m : Nat} (hw : 0 < w) (hm : m ≤ tn w s) (hh : Nat) : dval ((ordP w s m).map fun p => ((p.1 : Int), nD p.2)) hh = (idx w s m hh).map nD := by
  have key : ∀ l : List (Nat × Nat), (∀ p ∈ l, idx w s m p.1 = some p.2) → (∀ k, idx w s m hh = some k → (hh, k) ∈ l) → dval (l.map fun p => ((p.1 : Int), nD p.2)) hh = (idx w s m hh).map nD := by
    intro l
    induction l with
    | nil =>
      intro _ h2
      cases q : idx w s m hh with
      | none => rfl
      | some k => exact absurd (h2 k q) (by simp)
    | cons p r ih =>
      intro h1 h2
      rw [List.map_cons, dval_cons]
      by_cases e : p.1 = hh
      · rw [if_pos (by omega), ← e, h1 p List.mem_cons_self]
        rfl
      · rw [if_neg (by omega)]
        refine ih (fun p hp => h1 p (List.mem_cons_of_mem _ hp)) fun k hk => ?_
        rcases List.mem_cons.mp (h2 k hk) with z | z
        · exact absurd (by rw [← z]) e
        · exact z
  refine key _ (fun p hp => ?_) fun k hk => ?_
  · obtain ⟨h1, h2⟩ := (mem_ordP hw hm).mp hp
    exact (idx_some hw hm).mpr ⟨h1, h2.symm⟩
  · obtain ⟨h1, h2⟩ := (idx_some hw hm).mp hk
    exact (mem_ordP hw hm).mpr ⟨h1, h2.symm⟩
/-! data that may be compared -/
def sh (n : Nat) (d : PyData) : Prop := d.canLay0 = true ∧ d.depth ≤ n
theorem sh_int (n : Nat) (i : Int) : sh n (.int i) := ⟨rfl, Nat.zero_le _⟩
theorem sh_non (n : Nat) : sh n .none := ⟨rfl, Nat.zero_le _⟩
theorem sh_bool (n : Nat) (b : Bool) : sh n (.bool b) := ⟨rfl, Nat.zero_le _⟩
theorem sh_mono {n m : Nat} {d : PyData} (h : sh n d) (hm : n ≤ m) : sh m d := ⟨h.1, Nat.le_trans h.2 hm⟩
theorem sh_all {n : Nat} : ∀ {xs : List PyData}, (∀ x ∈ xs, sh n x) → PyData.canLayAll0 xs = true ∧ PyData.depthAll xs ≤ n
  | [], _ => ⟨rfl, Nat.zero_le _⟩
  | x :: xs, h => by
    obtain ⟨h1, h2⟩ := sh_all (xs := xs) fun y hy => h y (List.mem_cons_of_mem _ hy)
    obtain ⟨h3, h4⟩ := h x List.mem_cons_self
    refine ⟨?_, ?_⟩
    · show (PyData.canLay0 x && PyData.canLayAll0 xs) = true
      rw [h1, h3]
      rfl
    · show max (PyData.depth x) (PyData.depthAll xs) ≤ n
      omega
theorem sh_tup {n : Nat} {xs : List PyData} (h : ∀ x ∈ xs, sh n x) : sh (n + 1) (.tuple xs) := ⟨(sh_all h).1, Nat.succ_le_succ (sh_all h).2⟩
theorem sh_lst {n : Nat} {xs : List PyData} (h : ∀ x ∈ xs, sh n x) : sh (n + 1) (.list xs) := ⟨(sh_all h).1, Nat.succ_le_succ (sh_all h).2⟩
theorem sh_ints {n : Nat} (l : List Int) : sh (n + 1) (.tuple (l.map .int)) := sh_tup fun x hx => by
  obtain ⟨i, _, rfl⟩ := List.mem_map.mp hx
  exact sh_int _ _
theorem sh_nats {n : Nat} (l : List Nat) : sh (n + 1) (.tuple (l.map nD)) := sh_tup fun x hx => by
  obtain ⟨i, _, rfl⟩ := List.mem_map.mp hx
  exact sh_int _ _
theorem sh_npD {n : Nat} (p : Nat × Nat) : sh (n + 1) (npD p) := sh_tup fun y hy => by
  simp only [List.mem_cons, List.not_mem_nil, or_false] at hy
  rcases hy with rfl | rfl <;> exact sh_int _ _
theorem sh_npairs {n : Nat} (l : List (Nat × Nat)) : sh (n + 2) (.tuple (l.map npD)) := sh_tup fun x hx => by
  obtain ⟨i, _, rfl⟩ := List.mem_map.mp hx
  refine sh_tup fun y hy => ?_
  simp only [List.mem_cons, List.not_mem_nil, or_false] at hy
  rcases hy with rfl | rfl <;> exact sh_int _ _
theorem shaped_of {n : Nat} {d : PyData} (h : sh n d) (hn : n ≤ 64) : SeqAt.shaped d = true := by
  unfold SeqAt.shaped
  rw [h.1, decide_eq_true (Nat.le_trans h.2 hn)]
  rfl
theorem eqv_rfl {n : Nat} {d : PyData} (h : sh n d) : PyData.eqv d d = true := SeqAt.eqv_refl d h.1
section
variable {X : Cx} {a b : Expr} {E : En} {O : Own} {pos : Pos}
/-- == and != of data that are the same -/
theorem c_eqT {d : PyData} (ha : EX X a E O (.d d)) (hb : EX X b E O (.d d)) (h : sh 8 d) (hu : X.A.units + 64 < cLine := by assumption) : CX1 X .Eq a b E O true :=
  (c_eqD ha hb (shaped_of h (by decide)) (shaped_of h (by decide)) hu).cast (eqv_rfl h)
theorem c_neF {d : PyData} (ha : EX X a E O (.d d)) (hb : EX X b E O (.d d)) (h : sh 8 d) (hu : X.A.units + 64 < cLine := by assumption) : CX1 X .NotEq a b E O false :=
  (c_neD ha hb (shaped_of h (by decide)) (shaped_of h (by decide)) hu).cast (by rw [eqv_rfl h]; rfl)
end
end Py
/-! the next point of a row -/
namespace Rg
/-- the point ahead of the new one, and its place; the one behind -/
def ahd (w s m : Nat) : Nat × Nat := ((ordP w s m).filter fun p => decide (p.1 < pl w s m)).getLastD (0, 0)
def bhd (w s m : Nat) : Nat × Nat := (((ordP w s m).filter fun (p : Nat × Nat) => decide (pl w s m < p.1)) ++ [(w, 0)]).headD (0, 0)
theorem last_max : ∀ {l : List (Nat × Nat)}, l.Pairwise (fun p q => p.1 < q.1) → ∀ h : l ≠ [], ∀ x ∈ l, x.1 ≤ (l.getLast h).1
  | [a], _, _, x, hx => by
    obtain rfl := List.mem_singleton.mp hx
    exact Nat.le_refl _
  | a :: b :: r, hp, _, x, hx => by
    obtain ⟨h1, h2⟩ := List.pairwise_cons.mp hp
    rw [List.getLast_cons (by simp)]
    rcases List.mem_cons.mp hx with rfl | hx
    · exact Nat.le_of_lt (h1 _ (List.getLast_mem _))
    · exact last_max h2 (by simp) x hx
structure Ahd (w s m : Nat) (p : Nat × Nat) : Prop where
  lt : p.2 < m
  at_ : p.1 = pl w s p.2
  less : p.1 < pl w s m
  best : ∀ j, j < m → pl w s j < pl w s m → pl w s j ≤ p.1
theorem ahd_ok {w s m : Nat} (hw : 0 < w) (h0 : 0 < m) (hm : m < tn w s) : Ahd w s m (ahd w s m) ∧ ((ordP w s m).filter fun p => decide (p.1 < pl w s m)) ≠ [] := by
  have hp := pl_pos hw h0 hm
  have hne : ((ordP w s m).filter fun p => decide (p.1 < pl w s m)) ≠ [] := by
    apply List.ne_nil_of_mem (a := (0, 0))
    refine List.mem_filter.mpr ⟨(mem_ordP hw (Nat.le_of_lt hm)).mpr ⟨h0, by simp⟩, by simpa using hp⟩
  have e : ahd w s m = ((ordP w s m).filter fun p => decide (p.1 < pl w s m)).getLast hne := by
    unfold ahd
    rw [List.getLastD_eq_getLast?, List.getLast?_eq_some_getLast hne]
    rfl
  have hmem := List.getLast_mem hne
  rw [← e] at hmem
  obtain ⟨h1, h2⟩ := List.mem_filter.mp hmem
  obtain ⟨h3, h4⟩ := (mem_ordP hw (Nat.le_of_lt hm)).mp h1
  refine ⟨⟨h3, h4, by simpa using h2, fun j hj hl => ?_⟩, hne⟩
  rw [e]
  exact last_max ((ordP_sorted w s m).filter _) hne (pl w s j, j) (List.mem_filter.mpr ⟨(mem_ordP hw (Nat.le_of_lt hm)).mpr ⟨hj, rfl⟩, by simpa using hl⟩)
inductive Bhd (w s m : Nat) : Nat × Nat → Prop
  | in_ {p : Nat × Nat} : p.2 < m → p.1 = pl w s p.2 → pl w s m < p.1 → (∀ j, j < m → pl w s m < pl w s j → p.1 ≤ pl w s j) → Bhd w s m p
  | out : (∀ j, j < m → pl w s j ≤ pl w s m) → Bhd w s m (w, 0)
theorem bhd_ok {w s m : Nat} (hw : 0 < w) (h0 : 0 < m) (hm : m < tn w s) : Bhd w s m (bhd w s m) := by
  unfold bhd
  cases h : (ordP w s m).filter fun p => decide (pl w s m < p.1) with
  | nil =>
    refine .out fun j hj => ?_
    have h1 : ∀ p ∈ ordP w s m, ¬ (decide (pl w s m < p.1)) = true := List.filter_eq_nil_iff.mp h
    have := h1 (pl w s j, j) ((mem_ordP hw (Nat.le_of_lt hm)).mpr ⟨hj, rfl⟩)
    simpa using this
  | cons a r =>
    have hp : (a :: r).Pairwise (fun p q => p.1 < q.1) := h ▸ (ordP_sorted w s m).filter _
    obtain ⟨h1, _⟩ := List.pairwise_cons.mp hp
    have ha : a ∈ (ordP w s m).filter fun p => decide (pl w s m < p.1) := by rw [h]; exact List.mem_cons_self
    obtain ⟨h2, h3⟩ := List.mem_filter.mp ha
    obtain ⟨h4, h5⟩ := (mem_ordP hw (Nat.le_of_lt hm)).mp h2
    refine .in_ h4 h5 (by simpa using h3) fun j hj hl => ?_
    have hj' : (pl w s j, j) ∈ (ordP w s m).filter fun p => decide (pl w s m < p.1) := List.mem_filter.mpr ⟨(mem_ordP hw (Nat.le_of_lt hm)).mpr ⟨hj, rfl⟩, by simpa using hl⟩
    rw [h] at hj'
    rcases List.mem_cons.mp hj' with e | e
    · show a.1 ≤ _
      rw [← e]
      exact Nat.le_refl _
    · exact Nat.le_of_lt (h1 _ e)
theorem emod_sub {w a b : Nat} (ha : a < w) (hb : b < w) : ((a : Int) - (b : Int)) % (w : Int) = if b ≤ a then ((a - b : Nat) : Int) else ((a + w - b : Nat) : Int) := by
  split
  · rw [Int.emod_eq_of_lt (by omega) (by omega)]
    omega
  · rw [← Int.add_emod_right, Int.emod_eq_of_lt (by omega) (by omega)]
    omega
theorem bhd_ge {w s m : Nat} (hw : 0 < w) (h0 : 0 < m) (hm : m < tn w s) : pl w s m ≤ (bhd w s m).1 := by
  have hb := bhd_ok hw h0 hm
  have := pl_lt (s := s) (k := m) hw
  generalize bhd w s m = p at hb ⊢
  cases hb with
  | in_ _ _ h3 _ => exact Nat.le_of_lt h3
  | out _ => exact Nat.le_of_lt this
/-- all numbers of points with few lengths -/
def stopL (w s : Nat) : Nat → List Nat
  | 0 => []
  | k + 1 => if (lenL w s (k + 1)).length < 3 then stopL w s k ++ [k + 1] else stopL w s k
theorem stopL_filter (w s : Nat) : ∀ n, ((List.range n).filter fun i => decide ((lenL w s (1 + i)).length < 3)).map (fun i => 1 + i) = stopL w s n
  | 0 => rfl
  | k + 1 => by
    rw [List.range_succ, List.filter_append, List.map_append, stopL_filter w s k]
    show _ = if (lenL w s (k + 1)).length < 3 then stopL w s k ++ [k + 1] else stopL w s k
    rw [Nat.add_comm k 1]
    by_cases h : (lenL w s (1 + k)).length < 3
    · rw [if_pos h, List.filter_cons_of_pos (by simpa using h)]
      rfl
    · rw [if_neg h, List.filter_cons_of_neg (by simpa using h)]
      simp
theorem stopL_len (w s : Nat) : ∀ n, (stopL w s n).length ≤ n
  | 0 => Nat.le_refl _
  | k + 1 => by
    have := stopL_len w s k
    unfold stopL
    split
    · rw [List.length_append]; simp; omega
    · omega
/-- the lengths ahead -/
def befL (w s : Nat) : Nat → List Nat
  | 0 => []
  | k + 1 => lenL w s (k + 1)
def newAt (w s k : Nat) : List (Nat × Nat) := ((lenL w s (1 + k)).filter fun g => !decide (g ∈ befL w s k)).map fun g => (1 + k, g)
def newL (w s : Nat) : Nat → List (Nat × Nat)
  | 0 => []
  | k + 1 => newL w s k ++ newAt w s k
theorem newL_len {w s : Nat} (hw : 0 < w) (h1 : w ≤ 1000) : ∀ n, n ≤ tn w s → (newL w s n).length ≤ n * 64
  | 0, _ => Nat.le_refl _
  | k + 1, hk => by
    have a := newL_len (s := s) hw h1 k (by omega)
    have b := lenL_few (w := w) (s := s) (m := 1 + k) hw (by omega) (by omega) h1
    have c := List.length_filter_le (fun g => !decide (g ∈ befL w s k)) (lenL w s (1 + k))
    unfold newL newAt
    rw [List.length_append, List.length_map]
    omega
theorem bef_eq (w s k : Nat) : befL w s (k + 1) = lenL w s (1 + k) := by rw [Nat.add_comm 1 k]; rfl
end Rg
namespace Py
open PySem PySem.Spec PyProof.Rows L2 Rg
def T_common : FSpec := pure1 fun ds d => ∃ a b : Nat, ds = [.int a, .int b] ∧ d = nD (Nat.gcd a b)
def T_turn : FSpec := pure1 fun ds d => ∃ w s : Nat, 0 < w ∧ w < 2 ^ 1000 ∧ ds = [.int w, .int s] ∧ d = nD (tn w s)
def cutT (w s m : Nat) : PyData := .tuple [nD (ahd w s m).2, nD (bhd w s m).2, nD (pl w s m - (ahd w s m).1), nD ((bhd w s m).1 - pl w s m)]
def T_cut : FSpec := pure1 fun ds d => ∃ w s m : Nat, Row w s m ∧ m < tn w s ∧ ds = [rowD w s m] ∧ d = cutT w s m
def T_stops : FSpec := pure1 fun ds d => ∃ w s : Nat, 1 ≤ s ∧ s < w ∧ w ≤ 1000 ∧ ds = [.int w, .int s] ∧ d = .tuple ((stopL w s (tn w s)).map nD)
def T_new_lengths : FSpec := pure1 fun ds d => ∃ w s : Nat, 1 ≤ s ∧ s < w ∧ w ≤ 1000 ∧ ds = [.int w, .int s] ∧ d = .tuple ((newL w s (tn w s)).map npD)
theorem sh_cutT (n : Nat) (w s m : Nat) : sh (n + 1) (cutT w s m) := sh_tup fun x hx => by
  simp only [List.mem_cons, List.not_mem_nil, or_false] at hx
  rcases hx with rfl | rfl | rfl | rfl <;> exact sh_int _ _
theorem row_at {w s k : Nat} (h0 : 1 ≤ s) (h1 : s < w) (h2 : w ≤ 1000) (hk : k < tn w s) : Row w s (1 + k) := ⟨h2, h0, h1, by omega, by omega⟩
theorem min_back {w s m : Nat} (hw : 0 < w) (h0 : 0 < m) (hm : m < tn w s) : let f := fun k : Nat => ((((pl w s m : Nat) : Int) - (pl w s k : Nat)) % (w : Int), (k : Int));
    ((((pl w s m - (ahd w s m).1 : Nat) : Int)), (((ahd w s m).2 : Nat) : Int)) ∈ (List.range m).map f ∧ ∀ y ∈ (List.range m).map f, lexle ((((pl w s m - (ahd w s m).1 : Nat) : Int)), (((ahd w s m).2 : Nat) : Int)) y := by
  intro f
  obtain ⟨⟨h1, h2, h3, h4⟩, _⟩ := ahd_ok hw h0 hm
  generalize ahd w s m = p at h1 h2 h3 h4
  have ef : ∀ k, f k = (if pl w s k ≤ pl w s m then ((pl w s m - pl w s k : Nat) : Int) else ((pl w s m + w - pl w s k : Nat) : Int), (k : Int)) := fun k => by
    show (_, _) = _
    rw [emod_sub (pl_lt hw) (pl_lt hw)]
  constructor
  · refine List.mem_map.mpr ⟨p.2, List.mem_range.mpr h1, ?_⟩
    rw [ef, ← h2, if_pos (by omega)]
  · intro y hy
    obtain ⟨k, hk, rfl⟩ := List.mem_map.mp hy
    have hk' := List.mem_range.mp hk
    rw [ef]
    by_cases e : k = p.2
    · subst e
      rw [← h2, if_pos (by omega)]
      exact lexle_of (.inr ⟨rfl, Int.le_refl _⟩)
    · have hne : pl w s k ≠ pl w s p.2 := fun z => e (pl_inj' hw (by omega) (by omega) z)
      have hnm : pl w s k ≠ pl w s m := fun z => by
        have := pl_inj' hw (by omega) hm z
        omega
      have hlt := pl_lt (s := s) (k := k) hw
      refine lexle_of (.inl ?_)
      rw [← h2] at hne
      show _ < (if pl w s k ≤ pl w s m then _ else _)
      split
      · have := h4 k hk' (by omega)
        show ((pl w s m - p.1 : Nat) : Int) < _
        omega
      · show ((pl w s m - p.1 : Nat) : Int) < _
        omega
theorem min_on {w s m : Nat} (hw : 0 < w) (h0 : 0 < m) (hm : m < tn w s) : let f := fun k : Nat => ((((pl w s k : Nat) : Int) - (pl w s m : Nat)) % (w : Int), (k : Int));
    (((((bhd w s m).1 - pl w s m : Nat) : Int)), (((bhd w s m).2 : Nat) : Int)) ∈ (List.range m).map f ∧ ∀ y ∈ (List.range m).map f, lexle (((((bhd w s m).1 - pl w s m : Nat) : Int)), (((bhd w s m).2 : Nat) : Int)) y := by
  intro f
  have hb := bhd_ok hw h0 hm
  have hp := pl_pos hw h0 hm
  have hmw := pl_lt (s := s) (k := m) hw
  generalize bhd w s m = p at hb
  have ef : ∀ k, f k = (if pl w s m ≤ pl w s k then ((pl w s k - pl w s m : Nat) : Int) else ((pl w s k + w - pl w s m : Nat) : Int), (k : Int)) := fun k => by
    show (_, _) = _
    rw [emod_sub (pl_lt hw) (pl_lt hw)]
  cases hb with
  | in_ h1 h2 h3 h4 =>
    constructor
    · refine List.mem_map.mpr ⟨p.2, List.mem_range.mpr h1, ?_⟩
      rw [ef, ← h2, if_pos (by omega)]
    · intro y hy
      obtain ⟨k, hk, rfl⟩ := List.mem_map.mp hy
      have hk' := List.mem_range.mp hk
      rw [ef]
      by_cases e : k = p.2
      · subst e
        rw [← h2, if_pos (by omega)]
        exact lexle_of (.inr ⟨rfl, Int.le_refl _⟩)
      · have hne : pl w s k ≠ pl w s p.2 := fun z => e (pl_inj' hw (by omega) (by omega) z)
        have hnm : pl w s k ≠ pl w s m := fun z => by
          have := pl_inj' hw (by omega) hm z
          omega
        have hlt := pl_lt (s := s) (k := p.2) hw
        refine lexle_of (.inl ?_)
        rw [← h2] at hne hlt
        show _ < (if pl w s m ≤ pl w s k then _ else _)
        split
        · have := h4 k hk' (by omega)
          show ((p.1 - pl w s m : Nat) : Int) < _
          omega
        · show ((p.1 - pl w s m : Nat) : Int) < _
          omega
  | out h1 =>
    constructor
    · refine List.mem_map.mpr ⟨0, List.mem_range.mpr h0, ?_⟩
      rw [ef, pl_zero, if_neg (by omega), Nat.zero_add]
    · intro y hy
      obtain ⟨k, hk, rfl⟩ := List.mem_map.mp hy
      have hk' := List.mem_range.mp hk
      rw [ef]
      have hnm : pl w s k ≠ pl w s m := fun z => by
        have := pl_inj' hw (by omega) hm z
        omega
      have := h1 k hk'
      rw [if_neg (by omega)]
      by_cases e : k = 0
      · subst e
        rw [pl_zero]
        refine lexle_of (.inr ⟨?_, Int.le_refl _⟩)
        show ((w - pl w s m : Nat) : Int) = _
        rw [Nat.zero_add]
      · have := pl_pos (s := s) hw (Nat.pos_of_ne_zero e) (by omega)
        refine lexle_of (.inl ?_)
        show ((w - pl w s m : Nat) : Int) < _
        omega
theorem atI_lastP {l : List (Nat × Nat)} (h : l ≠ []) : atI (l.map npD) (-1) = some (npD (l.getLastD (0, 0))) := by
  obtain ⟨r, x, rfl⟩ : ∃ r x, l = r ++ [x] := ⟨l.dropLast, l.getLast h, (List.dropLast_concat_getLast h).symm⟩
  rw [List.map_append]
  show atI (r.map npD ++ [npD x]) (-1) = _
  rw [atI_last, List.getLastD_concat]
theorem atI_headP (w s m : Nat) : atI (((ordP w s m).filter fun p => decide (pl w s m < p.1)).map (fun p => npD p) ++ [.tuple [.int (w : Int), .int 0]]) 0 = some (npD (bhd w s m)) := by
  unfold bhd
  refine atI_nat (j := 0) ?_
  cases (ordP w s m).filter fun p => decide (pl w s m < p.1) with
  | nil => rfl
  | cons a r => rfl
end Py
/-! neighbours, by their numbers -/
namespace Rg
/-- all points round the ring, and point 0 again -/
def rnd (w s m : Nat) : List Nat := ordL w s m ++ [0]
theorem rnd_nx {w s m i : Nat} (hw : 0 < w) (hm : m ≤ tn w s) (hi : i < m) : nx w s m ((rnd w s m).getD i 0) = (rnd w s m).getD (i + 1) 0 := by
  have hl := ordL_len hw hm
  have e1 : (rnd w s m).getD i 0 = (ordL w s m).getD i 0 := by
    unfold rnd
    rw [List.getD_eq_getElem?_getD, List.getElem?_append_left (by omega), List.getD_eq_getElem?_getD]
  unfold nx
  rw [e1, ordL_idx hw hm hi]
  unfold rnd
  rw [List.getD_eq_getElem?_getD, List.getD_eq_getElem?_getD]
  by_cases h : i + 1 < m
  · rw [List.getElem?_append_left (by omega), List.getElem?_append_left (by omega)]
  · have h0 := ordL_zero hw hm (by omega)
    rw [List.getElem?_append_right (by omega), List.getElem?_append_right (by omega), show i + 1 - (ordL w s m).length = 0 by omega, List.getElem?_eq_getElem (by omega), h0]
    rfl
theorem rnd_len {w s m : Nat} (hw : 0 < w) (hm : m ≤ tn w s) : (rnd w s m).length = m + 1 := by
  unfold rnd
  rw [List.length_append, ordL_len hw hm]
  rfl
theorem rnd_lt {w s m i : Nat} (hw : 0 < w) (hm : m ≤ tn w s) (hi : i < m) : (rnd w s m).getD i 0 < m := by
  have hl := ordL_len hw hm
  unfold rnd
  rw [List.getD_eq_getElem?_getD, List.getElem?_append_left (by omega), List.getElem?_eq_getElem (by omega)]
  exact ordL_lt hw hm (by omega)
theorem rnd_zero {w s m : Nat} (hw : 0 < w) (hm : m ≤ tn w s) (h0 : 0 < m) : (rnd w s m).take 1 = [0] ∧ (rnd w s m).getD 0 0 = 0 := by
  have hl := ordL_len hw hm
  have h1 := ordL_zero hw hm h0
  unfold rnd
  cases h : ordL w s m with
  | nil => rw [h] at hl; simp at hl; omega
  | cons x r =>
    have : x = 0 := by
      have : (ordL w s m)[0]'(by omega) = x := by simp [h]
      omega
    subst this
    exact ⟨rfl, rfl⟩
theorem take_step {l : List Nat} {i : Nat} (h : i < l.length) : l.take (i + 1) = l.take i ++ [l.getD i 0] := by
  rw [List.take_succ, List.getElem?_eq_getElem h, List.getD_eq_getElem?_getD, List.getElem?_eq_getElem h]
  rfl
/-- how much on the next point is -/
def dueI (m a b k : Nat) : Int := if (k : Int) < (m : Int) - (a : Int) then (a : Int) else if (b : Int) ≤ (k : Int) then 0 - (b : Int) else (a : Int) - (b : Int)
theorem due_ok {w s m k : Nat} (hw : 0 < w) (hm : m ≤ tn w s) (h2 : 2 ≤ m) (hk : k < m) : dueI m (rgt w s m).1 (lft w s m).1 k = (nx w s m k : Int) - (k : Int) := by
  obtain ⟨h, _, _⟩ := rl_ok hw hm h2
  rw [h.next hk]
  have hs := h.sum
  have hb := h.b0
  have hbm := h.bm
  generalize (rgt w s m).1 = a, (lft w s m).1 = b at *
  unfold dueI nx3
  by_cases h1 : k + a < m
  · rw [if_pos h1, if_pos (show (k : Int) < (m : Int) - (a : Int) by omega)]; omega
  · rw [if_neg h1, if_neg (show ¬ (k : Int) < (m : Int) - (a : Int) by omega)]
    by_cases h2 : b ≤ k
    · rw [if_pos h2, if_pos (show (b : Int) ≤ (k : Int) by omega)]; omega
    · rw [if_neg h2, if_neg (show ¬ (b : Int) ≤ (k : Int) by omega)]; omega
theorem nx_one {w s : Nat} (hw : 0 < w) : nx w s 1 0 = 0 := by
  unfold nx
  rw [ordL_one hw]
  rfl
theorem rgt_one (w s : Nat) : rgt w s 1 = (0, w) := by unfold rgt; rw [if_pos rfl]
/-- a whole turn: both gaps beside point 0 are alike -/
theorem turn_alike {w s : Nat} (hw : 0 < w) : (rgt w s (tn w s)).2 = (lft w s (tn w s)).2 := by
  have hp := tn_pos (s := s) hw
  by_cases h1 : tn w s = 1
  · rw [h1, rgt_one, lft_one hw]
  · obtain ⟨h, e1, e2⟩ := rl_ok hw (Nat.le_refl (tn w s)) (by omega)
    rw [e1, e2]
    have ha := h.a0
    have ham := h.am
    have hb := h.b0
    have hbm := h.bm
    generalize (rgt w s (tn w s)).1 = a, (lft w s (tn w s)).1 = b at *
    have z : pl w s (tn w s) = 0 := (mul_mod_zero hw).mpr (Nat.dvd_refl _)
    have t1 := pl_sub (s := s) hw (Nat.le_of_lt ham)
    have t2 := pl_sub (s := s) hw (Nat.le_of_lt hbm)
    rw [z] at t1 t2
    have p1 := h.pos ha ham
    have p2 := h.pos hb hbm
    have q1 := h.mx (tn w s - a) (by omega)
    have q2 := h.mn (tn w s - b) (by omega) (by omega)
    have l1 := h.lt b
    omega
/-- one point more: right and left are no further -/
theorem more_near {w s m : Nat} (hw : 0 < w) (hm : m < tn w s) (h0 : 1 ≤ m) : (rgt w s (m + 1)).2 ≤ (rgt w s m).2 ∧ (lft w s (m + 1)).2 ≤ (lft w s m).2 := by
  obtain ⟨h, e1, e2⟩ := rl_ok (m := m + 1) hw hm (by omega)
  rw [e1, e2]
  by_cases h1 : m = 1
  · subst h1
    rw [rgt_one, lft_one hw]
    have := h.lt (rgt w s 2).1
    exact ⟨Nat.le_of_lt this, Nat.sub_le _ _⟩
  · obtain ⟨g, f1, f2⟩ := rl_ok hw (Nat.le_of_lt hm) (by omega)
    rw [f1, f2]
    have q1 := h.mn (rgt w s m).1 g.a0 (by have := g.am; omega)
    have q2 := h.mx (lft w s m).1 (by have := g.bm; omega)
    omega
theorem more_who {w s m : Nat} (hw : 0 < w) (hm : m < tn w s) (h2 : 2 ≤ m) : ((rgt w s (m + 1)).1 = (rgt w s m).1 ∨ (rgt w s (m + 1)).1 = m) ∧ ((lft w s (m + 1)).1 = (lft w s m).1 ∨ (lft w s (m + 1)).1 = m) := by
  obtain ⟨h, _, _⟩ := rl_ok (m := m + 1) hw hm (by omega)
  obtain ⟨g, _, _⟩ := rl_ok hw (Nat.le_of_lt hm) h2
  have a1 := h.am
  have b1 := h.bm
  have a2 := g.am
  have b2 := g.bm
  constructor
  · by_cases e : (rgt w s (m + 1)).1 = m
    · exact .inr e
    · left
      have q1 := h.mn (rgt w s m).1 g.a0 (by omega)
      have q2 := g.mn (rgt w s (m + 1)).1 h.a0 (by omega)
      exact g.inj (by omega) a2 (by omega)
  · by_cases e : (lft w s (m + 1)).1 = m
    · exact .inr e
    · left
      have q1 := h.mx (lft w s m).1 (by omega)
      have q2 := g.mx (lft w s (m + 1)).1 (by omega)
      exact g.inj (by omega) b2 (by omega)
end Rg
namespace Py
open PySem PySem.Spec PyProof.Rows L2 Rg
theorem cut_last (l : List Nat) (x : Nat) : cutD ((l ++ [x]).map nD) none (some (-1)) = l.map nD := by
  unfold cutD
  have e1 : HT.sIx ((l ++ [x]).map nD).length 0 none = 0 := rfl
  have e2 : HT.sIx ((l ++ [x]).map nD).length ((l ++ [x]).map nD).length (some (-1)) = l.length := by
    show (if (-1 : Int) < 0 then ((-1 : Int) + ((((l ++ [x]).map nD).length : Nat) : Int)).toNat else min (-1 : Int).toNat ((l ++ [x]).map nD).length) = l.length
    rw [if_pos (by decide), List.length_map, List.length_append, List.length_singleton]
    omega
  rw [e1, e2, List.drop_zero, Nat.sub_zero, List.map_append, List.take_left' (by simp)]
theorem sh_natl {n : Nat} (l : List Nat) : sh (n + 1) (.list (l.map nD)) := sh_lst fun x hx => by
  obtain ⟨i, _, rfl⟩ := List.mem_map.mp hx
  exact sh_int _ _
end Py
/-! one point more -/
namespace Rg
section
variable {w s m a b : Nat}
theorem RL.uniq {a' b' : Nat} (h : RL w s m a b) (g : RL w s m a' b') : a = a' ∧ b = b' :=
  ⟨h.inj h.am g.am (Nat.le_antisymm (h.mn a' g.a0 g.am) (g.mn a h.a0 h.am)), h.inj h.bm g.bm (Nat.le_antisymm (g.mx b h.bm) (h.mx b' g.bm))⟩
theorem RL.step (h : RL w s m a b) (hm : m < tn w s) : (m < a + b ∧ RL w s (m + 1) a b) ∨ (m = a + b ∧ w - pl w s b < pl w s a ∧ pl w s m = pl w s a - (w - pl w s b) ∧ RL w s (m + 1) m b) ∨ (m = a + b ∧ pl w s a < w - pl w s b ∧ pl w s m = pl w s b + pl w s a ∧ RL w s (m + 1) a m) := by
  have hs := h.sum
  have ha := h.a0
  have hb := h.b0
  have ham := h.am
  have hbm := h.bm
  have hla := h.lt a
  have hlb := h.lt b
  have hlm := h.lt m
  have hpa := h.pos ha ham
  have hpb := h.pos hb hbm
  have hpm := pl_pos h.w0 (show 0 < m by omega) hm
  have hab := h.mx a ham
  by_cases e : m < a + b
  · refine .inl ⟨e, h.w0, hm, ha, by omega, hb, by omega, fun j hj hjm => ?_, fun j hjm => ?_⟩
    · by_cases ej : j = m
      · subst ej
        rcases Nat.lt_or_ge (pl w s j) (pl w s a) with z | z
        · exfalso
          have h1 := pl_sub (s := s) h.w0 (Nat.le_of_lt ham)
          have h2 := h.mx (j - a) (by omega)
          have h3 := pl_sub (s := s) h.w0 (show j - a ≤ b by omega)
          have h4 := h.mn (b - (j - a)) (by omega) (by omega)
          have h5 := h.lt (b - (j - a))
          omega
        · exact z
      · exact h.mn j hj (by omega)
    · by_cases ej : j = m
      · subst ej
        rcases Nat.lt_or_ge (pl w s b) (pl w s j) with z | z
        · exfalso
          have h1 := pl_sub (s := s) h.w0 (Nat.le_of_lt hbm)
          have h2 := h.mn (j - b) (by omega) (by omega)
          have h3 := pl_sub (s := s) h.w0 (show j - b ≤ a by omega)
          have h4 := h.mx (a - (j - b)) (by omega)
          have h5 := h.lt (j - b)
          have h6 := h.pos (show 1 ≤ a - (j - b) by omega) (by omega)
          omega
        · exact z
      · exact h.mx j (by omega)
  · have e' : m = a + b := by omega
    have hadd := pl_add (s := s) h.w0 a b
    rw [← e'] at hadd
    rcases Nat.lt_trichotomy (pl w s a) (w - pl w s b) with z | z | z
    · refine .inr (.inr ⟨e', z, by omega, h.w0, hm, ha, by omega, by omega, by omega, fun j hj hjm => ?_, fun j hjm => ?_⟩)
      · by_cases ej : j = m
        · subst ej; omega
        · exact h.mn j hj (by omega)
      · by_cases ej : j = m
        · subst ej; exact Nat.le_refl _
        · have := h.mx j (by omega)
          omega
    · omega
    · refine .inr (.inl ⟨e', z, by omega, h.w0, hm, by omega, by omega, hb, by omega, fun j hj hjm => ?_, fun j hjm => ?_⟩)
      · by_cases ej : j = m
        · subst ej; exact Nat.le_refl _
        · have := h.mn j hj (by omega)
          omega
      · by_cases ej : j = m
        · subst ej
          omega
        · exact h.mx j (by omega)
end
/-- what the two gaps are that a new point makes, and what it cuts -/
structure CutOk (w s m a b : Nat) (p q : Nat × Nat) : Prop where
  k : p.2 + a = m
  n : q.2 + b = m
  back : pl w s m - p.1 = pl w s a
  on : q.1 - pl w s m = w - pl w s b
  gap : gapN w s m p.2 = pl w s a + (w - pl w s b)
  next : nx w s m p.2 = q.2
  lt : p.2 < m
  keep : ∀ j, j < m → j ≠ p.2 → gapN w s (m + 1) j = gapN w s m j
  one : gapN w s (m + 1) p.2 = pl w s a
  two : gapN w s (m + 1) m = w - pl w s b
theorem cut_ok {w s m : Nat} (hw : 0 < w) (h0 : 0 < m) (hm : m < tn w s) : CutOk w s m (rgt w s (m + 1)).1 (lft w s (m + 1)).1 (ahd w s m) (bhd w s m) := by
  obtain ⟨hR, _, _⟩ := rl_ok (m := m + 1) hw hm (by omega)
  generalize (rgt w s (m + 1)).1 = a, (lft w s (m + 1)).1 = b at hR
  obtain ⟨⟨k1, k2, k3, k4⟩, _⟩ := ahd_ok hw h0 hm
  have hB := bhd_ok hw h0 hm
  have hlm := pl_lt (s := s) (k := m) hw
  have hpm := pl_pos hw h0 hm
  obtain ⟨n1, n2, n3, n4⟩ : (bhd w s m).2 < m ∧ pl w s m < (bhd w s m).1 ∧ (bhd w s m).1 ≤ w ∧ ((bhd w s m).1 = pl w s (bhd w s m).2 ∨ ((bhd w s m).1 = w ∧ (bhd w s m).2 = 0)) := by
    generalize bhd w s m = p at hB
    cases hB with
    | in_ h1 h2 h3 h4 =>
      have := pl_lt (s := s) (k := p.2) hw
      exact ⟨h1, h3, by omega, .inl h2⟩
    | out h1 => exact ⟨h0, hlm, Nat.le_refl _, .inr ⟨rfl, rfl⟩⟩
  have n5 : ∀ j, j < m → pl w s m < pl w s j → (bhd w s m).1 ≤ pl w s j := by
    generalize bhd w s m = p at hB
    cases hB with
    | in_ h1 h2 h3 h4 => exact h4
    | out h1 =>
      intro j hj hl
      have := h1 j hj
      omega
  generalize ahd w s m = p, bhd w s m = q at *
  obtain ⟨pk, k⟩ := p
  obtain ⟨pn, n⟩ := q
  obtain rfl : pk = pl w s k := k2
  simp only at *
  have ne : ∀ j, j < m → pl w s j ≠ pl w s m := fun j hj z => by
    have := pl_inj' hw (by omega) hm z
    omega
  have fp : ∀ i j, i ≤ m → j ≤ m → far w s i j = if pl w s i < pl w s j then pl w s j - pl w s i else pl w s j + w - pl w s i := fun i j hi hj => far_place hw (by omega) (by omega)
  -- all are as far from k as n is
  have fk : ∀ j, j < m → pn - pl w s k ≤ far w s k j := fun j hj => by
    rw [fp k j (by omega) (by omega)]
    have h1 := ne j hj
    have h2 := k4 j hj
    have h3 := n5 j hj
    split
    · omega
    · omega
  have fkn : far w s k n = pn - pl w s k := by
    rw [fp k n (by omega) (by omega)]
    rcases n4 with e | ⟨e1, e2⟩
    · rw [← e, if_pos (by omega)]
    · rw [e2, pl_zero, if_neg (by omega), e1, Nat.zero_add]
  have gk : gapN w s m k = pn - pl w s k := by
    rw [← fkn]
    refine gapN_eq hw k1 (by omega) n1 fun j hj => ?_
    rw [fkn]
    exact fk j hj
  have hnx : nx w s m k = n := by
    obtain ⟨x1, x2⟩ := nx_far hw (Nat.le_of_lt hm) k1
    exact far_inj (s := s) (k := k) hw (by omega) (by omega) (by omega) (by rw [x2, gk, fkn])
  -- in the row with one point more
  have fkm : far w s k m = pl w s m - pl w s k := by
    rw [fp k m (by omega) (by omega), if_pos k3]
  have g1 : gapN w s (m + 1) k = pl w s m - pl w s k := by
    show min (gapN w s m k) (far w s k m) = _
    rw [gk, fkm, Nat.min_eq_right (by omega)]
  have fmn : far w s m n = pn - pl w s m := by
    rw [fp m n (by omega) (by omega)]
    rcases n4 with e | ⟨e1, e2⟩
    · rw [← e, if_pos (by omega)]
    · rw [e2, pl_zero, if_neg (by omega), e1, Nat.zero_add]
  have g2 : gapN w s (m + 1) m = pn - pl w s m := by
    rw [← fmn]
    refine gapN_eq hw (by omega) hm (by omega) fun j hj => ?_
    rw [fmn]
    by_cases ej : j = m
    · subst ej
      unfold far
      rw [if_neg (Nat.lt_irrefl _), Nat.sub_self, pl_zero]
      omega
    · rw [fp m j (by omega) (by omega)]
      have h3 := n5 j (by omega)
      have h1 := ne j (by omega)
      split
      · omega
      · omega
  have nx1 : nx w s (m + 1) k = m := by
    obtain ⟨x1, x2⟩ := nx_far (m := m + 1) hw hm (show k < m + 1 by omega)
    exact far_inj (s := s) (k := k) hw (by omega) (by omega) (by omega) (by rw [x2, g1, fkm])
  have nx2 : nx w s (m + 1) m = n := by
    obtain ⟨x1, x2⟩ := nx_far (m := m + 1) hw hm (show m < m + 1 by omega)
    exact far_inj (s := s) (k := m) hw (by omega) (by omega) (by omega) (by rw [x2, g2, fmn])
  have r1 := hR.next (show k < m + 1 by omega)
  have r2 := hR.next (show m < m + 1 by omega)
  have r3 := hR.gap (show k < m + 1 by omega)
  have r4 := hR.gap (show m < m + 1 by omega)
  rw [nx1] at r1
  rw [nx2] at r2
  rw [g1] at r3
  rw [g2] at r4
  have ha := hR.a0
  have hb := hR.b0
  have ham := hR.am
  have hbm := hR.bm
  unfold nx3 at r1 r2
  unfold gp3 at r3 r4
  rw [if_neg (by omega), if_pos (by omega)] at r2 r4
  have ek : k + a = m := by
    split at r1
    · omega
    · split at r1
      · omega
      · omega
  rw [if_pos (by omega)] at r3
  have e5 : pl w s m - pl w s k + (pn - pl w s m) = pn - pl w s k := by omega
  refine ⟨ek, by omega, r3, r4, ?_, hnx, k1, fun j hj hjk => ?_, by rw [g1, r3], by rw [g2, r4]⟩
  · rw [gk, ← r3, ← r4]
    exact e5.symm
  · show min (gapN w s m j) (far w s j m) = gapN w s m j
    refine Nat.min_eq_left (Nat.le_trans (gapN_le (n := k) k1) ?_)
    rw [fp j k (by omega) (by omega), fp j m (by omega) (by omega)]
    have h1 := ne j hj
    have h2 := k4 j hj
    have h3 : pl w s j ≠ pl w s k := fun z => hjk (pl_inj' (s := s) hw (by omega) (by omega) z)
    have h4 := pl_lt (s := s) (k := j) hw
    split
    · rw [if_pos (by omega)]
      omega
    · rw [if_neg (by omega)]
      omega
/-- the gap that is cut is a greatest one -/
theorem cut_greatest {w s m : Nat} (hw : 0 < w) (h0 : 0 < m) (hm : m < tn w s) : (lenL w s m).getLastD 0 = pl w s (rgt w s (m + 1)).1 + (w - pl w s (lft w s (m + 1)).1) := by
  obtain ⟨hR, _, _⟩ := rl_ok (m := m + 1) hw hm (by omega)
  generalize (rgt w s (m + 1)).1 = a', (lft w s (m + 1)).1 = b' at hR
  by_cases h1 : m = 1
  · subst h1
    rw [lenL_one hw]
    have := hR.am
    have := hR.a0
    have := hR.bm
    have := hR.b0
    obtain rfl : a' = 1 := by omega
    obtain rfl : b' = 1 := by omega
    have := hR.lt 1
    show w = _
    omega
  · obtain ⟨h, _, _⟩ := rl_ok hw (Nat.le_of_lt hm) (show 2 ≤ m by omega)
    generalize (rgt w s m).1 = a, (lft w s m).1 = b at h
    have hp := h.pos h.a0 h.am
    have hq := h.lt b
    rw [lenL_three h]
    unfold len3
    rcases h.step hm with ⟨e, g⟩ | ⟨e, z, e2, g⟩ | ⟨e, z, e2, g⟩
    · obtain ⟨e3, e4⟩ := hR.uniq g
      rw [e3, e4, decide_eq_true e, if_pos rfl, List.getLastD_concat]
    · obtain ⟨e3, e4⟩ := hR.uniq g
      rw [e3, e4, decide_eq_false (by omega), if_neg (by omega), if_pos z]
      show pl w s a = _
      omega
    · obtain ⟨e3, e4⟩ := hR.uniq g
      have h5 := hR.lt m
      rw [e3, e4, decide_eq_false (by omega), if_pos z]
      show w - pl w s b = _
      have := h.lt a
      omega
/-- all gaps of one point more -/
theorem cut_perm {w s m : Nat} (hw : 0 < w) (h0 : 0 < m) (hm : m < tn w s) : (gapL w s m ++ [pl w s (rgt w s (m + 1)).1, w - pl w s (lft w s (m + 1)).1]).Perm ((pl w s (rgt w s (m + 1)).1 + (w - pl w s (lft w s (m + 1)).1)) :: gapL w s (m + 1)) := by
  have C := cut_ok hw h0 hm
  have p1 : (gapL w s m).Perm ((List.range m).map (gapN w s m)) := (ordL_perm hw (Nat.le_of_lt hm)).map _
  have p2 : (gapL w s (m + 1)).Perm ((List.range (m + 1)).map (gapN w s (m + 1))) := (ordL_perm hw hm).map _
  refine (p1.append_right _).trans (.trans ?_ (p2.cons _).symm)
  have e1 : (List.range (m + 1)).map (gapN w s (m + 1)) = (List.range m).map (gapN w s (m + 1)) ++ [gapN w s (m + 1) m] := by rw [List.range_succ, List.map_append]; rfl
  have hk : (ahd w s m).2 ∈ List.range m := List.mem_range.mpr C.lt
  have q0 := List.perm_cons_erase hk
  have q1 := q0.map (gapN w s m)
  have q2 := q0.map (gapN w s (m + 1))
  have e2 : ((List.range m).erase (ahd w s m).2).map (gapN w s (m + 1)) = ((List.range m).erase (ahd w s m).2).map (gapN w s m) := by
    apply List.map_congr_left
    intro j hj
    obtain ⟨h1, h2⟩ := (List.nodup_range.mem_erase_iff).mp hj
    exact C.keep j (List.mem_range.mp h2) h1
  rw [List.map_cons, C.gap] at q1
  rw [List.map_cons, C.one, e2] at q2
  rw [e1, C.two]
  refine (q1.append_right _).trans (.trans ?_ ((q2.append_right _).cons _).symm)
  rw [List.cons_append, List.cons_append]
  exact (List.perm_middle).cons _
end Rg
/-! lengths as they come -/
namespace Rg
theorem stopL_mem {w s m : Nat} : ∀ {n : Nat}, m ∈ stopL w s n ↔ 1 ≤ m ∧ m ≤ n ∧ (lenL w s m).length < 3
  | 0 => by
    show m ∈ [] ↔ _
    simp only [List.not_mem_nil, false_iff]
    omega
  | n + 1 => by
    have ih := stopL_mem (w := w) (s := s) (m := m) (n := n)
    show m ∈ (if (lenL w s (n + 1)).length < 3 then stopL w s n ++ [n + 1] else stopL w s n) ↔ _
    by_cases e : m = n + 1
    · subst e
      by_cases h : (lenL w s (n + 1)).length < 3
      · rw [if_pos h]
        simp [h]
      · rw [if_neg h, ih]
        constructor
        · rintro ⟨_, z, _⟩; omega
        · rintro ⟨_, _, z⟩; exact absurd z h
    · have e2 : m ∈ (if (lenL w s (n + 1)).length < 3 then stopL w s n ++ [n + 1] else stopL w s n) ↔ m ∈ stopL w s n := by
        split
        · simp [e]
        · rfl
      rw [e2, ih]
      constructor
      · rintro ⟨h1, h2, h3⟩; exact ⟨h1, by omega, h3⟩
      · rintro ⟨h1, h2, h3⟩; exact ⟨h1, by omega, h3⟩
theorem len3_few {A B : Nat} {t : Bool} : (len3 A B t).length < 3 ↔ t = false ∨ A = B := by
  unfold len3
  cases t
  · simp only [Bool.false_eq_true, if_false, List.append_nil, true_or, iff_true]
    split
    · simp
    · split
      · simp
      · simp
  · simp only [if_true, List.length_append, List.length_singleton]
    split
    · simp; omega
    · split
      · simp; omega
      · simp; omega
theorem few_iff {w s m : Nat} (hw : 0 < w) (h0 : 1 ≤ m) (hm : m ≤ tn w s) : (lenL w s m).length < 3 ↔ m = 1 ∨ (rgt w s m).1 + (lft w s m).1 = m ∨ (rgt w s m).2 = (lft w s m).2 := by
  by_cases h1 : m = 1
  · subst h1
    rw [lenL_one hw]
    simp
  · obtain ⟨h, e1, e2⟩ := rl_ok hw hm (by omega)
    have hs := h.sum
    rw [lenL_three h, len3_few, e1, e2, decide_eq_false_iff_not]
    constructor
    · rintro (z | z)
      · exact .inr (.inl (by omega))
      · exact .inr (.inr z)
    · rintro (z | z | z)
      · exact absurd z h1
      · exact .inl (by omega)
      · exact .inr z
theorem tn_two {w s : Nat} (h0 : 1 ≤ s) (h1 : s < w) : 2 ≤ tn w s := by
  have hg : Nat.gcd w s ≤ s := Nat.le_of_dvd h0 (Nat.gcd_dvd_right w s)
  have h := tn_mul w s
  rcases Nat.lt_or_ge (tn w s) 2 with z | z
  · have : tn w s * Nat.gcd w s ≤ 1 * Nat.gcd w s := Nat.mul_le_mul_right _ (by omega)
    omega
  · exact z
theorem lenL_turn {w s : Nat} (h0 : 1 ≤ s) (h1 : s < w) : (lenL w s (tn w s)).length < 3 := by
  have h2 := tn_two h0 h1
  exact (few_iff (by omega) (by omega) (Nat.le_refl _)).mpr (.inr (.inr (turn_alike (by omega))))
/-- the last gap of all -/
theorem turn_gap {w s a b : Nat} (h : RL w s (tn w s) a b) (e : pl w s a = w - pl w s b) : pl w s a = w / tn w s := by
  have hg := gcd_pos (s := s) h.w0
  have ht := tn_pos (s := s) h.w0
  have hmul := tn_mul w s
  have e1 : w / tn w s = Nat.gcd w s := Nat.div_eq_of_eq_mul_right ht hmul.symm
  rw [e1]
  have hge : Nat.gcd w s ≤ pl w s a := by
    refine Nat.le_of_dvd (h.pos h.a0 h.am) ?_
    unfold pl
    exact (Nat.dvd_mod_iff (Nat.gcd_dvd_left w s)).mpr (Nat.dvd_trans (Nat.gcd_dvd_right w s) (Nat.dvd_mul_left s a))
  have hle : tn w s * pl w s a ≤ w := by
    have hsum := gapL_sum h.w0 h.mt ht
    have hlen := gapL_len h.w0 h.mt
    have key : ∀ l : List Nat, (∀ x ∈ l, pl w s a ≤ x) → l.length * pl w s a ≤ l.sum := by
      intro l
      induction l with
      | nil => intro _; simp
      | cons x r ih =>
        intro hx
        have h1 := ih fun y hy => hx y (List.mem_cons_of_mem _ hy)
        have h2 := hx x List.mem_cons_self
        rw [List.length_cons, List.sum_cons, Nat.succ_mul]
        omega
    have := key (gapL w s (tn w s)) fun x hx => by
      rcases (gap_mem3 h).mp hx with z | z | ⟨_, z⟩
      · omega
      · omega
      · omega
    rw [hlen, hsum] at this
    exact this
  rcases Nat.lt_or_ge (Nat.gcd w s) (pl w s a) with z | z
  · have : tn w s * (Nat.gcd w s + 1) ≤ tn w s * pl w s a := Nat.mul_le_mul_left _ z
    rw [Nat.mul_succ] at this
    omega
  · omega
theorem newL_mem1 {w s : Nat} : ∀ {n : Nat} {p : Nat × Nat}, p ∈ newL w s n → 1 ≤ p.1 ∧ p.1 ≤ n
  | 0, p, h => by cases h
  | n + 1, p, h => by
    rcases List.mem_append.mp (show p ∈ newL w s n ++ newAt w s n from h) with z | z
    · have := newL_mem1 z
      omega
    · obtain ⟨g, _, rfl⟩ := List.mem_map.mp z
      show 1 ≤ 1 + n ∧ 1 + n ≤ n + 1
      omega
def lexN (p q : Nat × Nat) : Prop := p.1 < q.1 ∨ (p.1 = q.1 ∧ p.2 < q.2)
theorem newL_sorted {w s : Nat} : ∀ n, (newL w s n).Pairwise lexN
  | 0 => List.Pairwise.nil
  | n + 1 => by
    refine List.pairwise_append.mpr ⟨newL_sorted n, ?_, fun p hp q hq => ?_⟩
    · exact List.pairwise_map.mpr (((lenL_sorted w s (1 + n)).filter _).imp fun {x y} h => .inr ⟨rfl, h⟩)
    · have h1 := newL_mem1 hp
      obtain ⟨g, _, rfl⟩ := List.mem_map.mp hq
      exact .inl (show p.1 < 1 + n by omega)
theorem newL_head {w s : Nat} (hw : 0 < w) : ∀ n, 1 ≤ n → ∃ r, newL w s n = (1, w) :: r
  | 0, h => by omega
  | 1, _ => ⟨[], by
    show [] ++ newAt w s 0 = _
    unfold newAt befL
    rw [lenL_one hw]
    rfl⟩
  | n + 2, _ => by
    obtain ⟨r, e⟩ := newL_head hw (n + 1) (by omega)
    refine ⟨r ++ newAt w s (n + 1), ?_⟩
    show newL w s (n + 1) ++ _ = _
    rw [e]
    rfl
/-- what comes at a number of points -/
theorem newL_at {w s k : Nat} : ∀ {n : Nat}, k < n → ((newL w s n).filter fun p => decide (p.1 = 1 + k)).map (·.2) = (lenL w s (1 + k)).filter fun g => !decide (g ∈ befL w s k)
  | 0, h => by omega
  | n + 1, h => by
    show ((newL w s n ++ newAt w s n).filter _).map _ = _
    rw [List.filter_append, List.map_append]
    by_cases e : k = n
    · subst e
      have e1 : (newL w s k).filter (fun p => decide (p.1 = 1 + k)) = [] := List.filter_eq_nil_iff.mpr fun p hp => by
        have := newL_mem1 hp
        simp; omega
      have e2 : (newAt w s k).filter (fun p => decide (p.1 = 1 + k)) = newAt w s k := List.filter_eq_self.mpr fun p hp => by
        obtain ⟨g, _, rfl⟩ := List.mem_map.mp hp
        simp
      rw [e1, e2]
      unfold newAt
      rw [List.map_map]
      simp
      exact List.map_id' _
    · have e2 : (newAt w s n).filter (fun p => decide (p.1 = 1 + k)) = [] := List.filter_eq_nil_iff.mpr fun p hp => by
        obtain ⟨g, _, rfl⟩ := List.mem_map.mp hp
        simp; omega
      rw [e2, List.map_nil, List.append_nil]
      exact newL_at (by omega)
def szL (w s n : Nat) : List Nat := (newL w s n).map (·.2)
theorem szL_succ (w s n : Nat) : szL w s (n + 1) = szL w s n ++ ((lenL w s (1 + n)).filter fun g => !decide (g ∈ befL w s n)) := by
  show (newL w s n ++ newAt w s n).map _ = _
  rw [List.map_append]
  unfold newAt
  rw [List.map_map]
  show _ ++ List.map (fun g => g) _ = _
  rw [List.map_id']
  rfl
theorem szL_sub {w s : Nat} : ∀ {n g : Nat}, g ∈ befL w s n → g ∈ szL w s n
  | 0, g, h => by cases h
  | n + 1, g, h => by
    rw [szL_succ, List.mem_append]
    by_cases hb : g ∈ befL w s n
    · exact .inl (szL_sub hb)
    · right
      rw [bef_eq] at h
      exact List.mem_filter.mpr ⟨h, by simpa using hb⟩
structure SzOk (w s n A B : Nat) : Prop where
  nd : (szL w s n).Nodup
  at_ : ∀ x ∈ szL w s n, x = min A B ∨ max A B ≤ x
theorem sz_step {w s n a b : Nat} (h : RL w s n a b) (hn : n < tn w s) (S : SzOk w s n (pl w s a) (w - pl w s b)) : ∃ a' b', RL w s (n + 1) a' b' ∧ SzOk w s (n + 1) (pl w s a') (w - pl w s b') := by
  have hp := h.pos h.a0 h.am
  have hq := h.lt b
  have hn0 : n ≠ 0 := by have := h.am; omega
  have eb : befL w s n = lenL w s n := by
    obtain ⟨k, rfl⟩ : ∃ k, n = k + 1 := ⟨n - 1, by omega⟩
    rfl
  have e1 : lenL w s (1 + n) = lenL w s (n + 1) := by rw [Nat.add_comm]
  have hmem : ∀ g, g ∈ lenL w s n ↔ g = pl w s a ∨ g = w - pl w s b ∨ (n < a + b ∧ g = pl w s a + (w - pl w s b)) := fun g => by rw [lenL_mem h.w0 h.mt, gap_mem3 h]
  have fin : ∀ a' b' (g : RL w s (n + 1) a' b') (N : ∀ x, x ∈ lenL w s (n + 1) → ¬ x ∈ lenL w s n → x ∉ szL w s n ∧ (x = min (pl w s a') (w - pl w s b') ∨ max (pl w s a') (w - pl w s b') ≤ x)) (O : ∀ x ∈ szL w s n, x = min (pl w s a') (w - pl w s b') ∨ max (pl w s a') (w - pl w s b') ≤ x), SzOk w s (n + 1) (pl w s a') (w - pl w s b') := by
    intro a' b' g N O
    have N' : ∀ x, x ∈ ((lenL w s (1 + n)).filter fun g => !decide (g ∈ befL w s n)) → x ∉ szL w s n ∧ (x = min (pl w s a') (w - pl w s b') ∨ max (pl w s a') (w - pl w s b') ≤ x) := fun x hx => by
      obtain ⟨h1, h2⟩ := List.mem_filter.mp hx
      rw [e1] at h1
      rw [eb] at h2
      exact N x h1 (by simpa using h2)
    refine ⟨?_, fun x hx => ?_⟩
    · rw [szL_succ]
      refine List.nodup_append.mpr ⟨S.nd, (nodup_lt (lenL_sorted w s (1 + n))).filter _, fun x hx y hy e => ?_⟩
      subst e
      exact (N' x hy).1 hx
    · rw [szL_succ] at hx
      rcases List.mem_append.mp hx with z | z
      · exact O x z
      · exact (N' x z).2
  rcases h.step hn with ⟨e, g⟩ | ⟨e, z, e2, g⟩ | ⟨e, z, e2, g⟩
  · refine ⟨a, b, g, fin a b g (fun x h1 h2 => ?_) S.at_⟩
    exfalso
    apply h2
    rw [hmem]
    rw [lenL_mem g.w0 g.mt, gap_mem3 g] at h1
    rcases h1 with z | z | ⟨_, z⟩
    · exact .inl z
    · exact .inr (.inl z)
    · exact .inr (.inr ⟨e, z⟩)
  · refine ⟨n, b, g, fin n b g (fun x h1 h2 => ?_) fun x hx => ?_⟩
    · rw [lenL_mem g.w0 g.mt, gap_mem3 g] at h1
      rw [hmem] at h2
      have h3 : x = pl w s n := by omega
      refine ⟨fun hx => ?_, by omega⟩
      have := S.at_ x hx
      omega
    · have := S.at_ x hx
      omega
  · refine ⟨a, n, g, fin a n g (fun x h1 h2 => ?_) fun x hx => ?_⟩
    · have hlm := h.lt n
      rw [lenL_mem g.w0 g.mt, gap_mem3 g] at h1
      rw [hmem] at h2
      have h3 : x = w - pl w s n := by omega
      refine ⟨fun hx => ?_, by omega⟩
      have := S.at_ x hx
      omega
    · have := S.at_ x hx
      have hlm := h.lt n
      omega
theorem sz_ok {w s : Nat} (hw : 0 < w) : ∀ {n : Nat}, 2 ≤ n → n ≤ tn w s → ∃ a b, RL w s n a b ∧ SzOk w s n (pl w s a) (w - pl w s b)
  | 0, h, _ => by omega
  | 1, h, _ => by omega
  | 2, _, hn => by
    obtain ⟨h, _, _⟩ := rl_ok hw hn (by omega)
    refine ⟨_, _, h, ?_⟩
    generalize (rgt w s 2).1 = a, (lft w s 2).1 = b at h
    have hla := h.lt a
    have e1 : szL w s 2 = w :: ((lenL w s 2).filter fun g => !decide (g ∈ [w])) := by
      rw [szL_succ, szL_succ]
      show ([] ++ (lenL w s 1).filter _) ++ (lenL w s 2).filter (fun g => !decide (g ∈ lenL w s 1)) = _
      rw [lenL_one hw]
      rfl
    have hm : ∀ x, x ∈ ((lenL w s 2).filter fun g => !decide (g ∈ [w])) → x ≠ w ∧ (x = pl w s a ∨ x = w - pl w s b ∨ x = pl w s a + (w - pl w s b)) := fun x hx => by
      obtain ⟨h1, h2⟩ := List.mem_filter.mp hx
      rw [lenL_mem h.w0 h.mt, gap_mem3 h] at h1
      refine ⟨by simpa using h2, ?_⟩
      rcases h1 with z | z | ⟨_, z⟩
      · exact .inl z
      · exact .inr (.inl z)
      · exact .inr (.inr z)
    refine ⟨?_, fun x hx => ?_⟩
    · rw [e1]
      refine List.nodup_cons.mpr ⟨fun z => (hm w z).1 rfl, (nodup_lt (lenL_sorted w s 2)).filter _⟩
    · rw [e1] at hx
      rcases List.mem_cons.mp hx with z | z
      · omega
      · have := hm x z
        omega
  | n + 3, _, hn => by
    obtain ⟨a, b, h, S⟩ := sz_ok (w := w) (s := s) hw (n := n + 2) (by omega) (by omega)
    exact sz_step h (by omega) S
theorem sz_end {w s : Nat} (h0 : 1 ≤ s) (h1 : s < w) : (szL w s (tn w s)).Nodup ∧ w / tn w s ∈ szL w s (tn w s) ∧ ∀ x ∈ szL w s (tn w s), w / tn w s ≤ x := by
  have hw : 0 < w := by omega
  have h2 := tn_two h0 h1
  obtain ⟨a, b, h, S⟩ := sz_ok (s := s) hw h2 (Nat.le_refl _)
  have ea := turn_alike (s := s) hw
  obtain ⟨g, e1, e2⟩ := rl_ok hw (Nat.le_refl (tn w s)) h2
  rw [e1, e2] at ea
  obtain ⟨z1, z2⟩ := g.uniq h
  rw [z1, z2] at ea
  have eg := turn_gap h ea
  refine ⟨S.nd, szL_sub ?_, fun x hx => ?_⟩
  · obtain ⟨k, ek⟩ : ∃ k, tn w s = k + 1 := ⟨tn w s - 1, by omega⟩
    rw [← eg]
    have : pl w s a ∈ lenL w s (tn w s) := (lenL_mem hw (Nat.le_refl _)).mpr ((gap_mem3 h).mpr (.inl rfl))
    rw [ek] at this ⊢
    exact this
  · have := S.at_ x hx
    omega
end Rg
namespace Rg
theorem stopL_head {w s : Nat} (hw : 0 < w) : ∀ n, 1 ≤ n → ∃ r, stopL w s n = 1 :: r
  | 0, h => by omega
  | 1, _ => ⟨[], by
    show (if (lenL w s 1).length < 3 then [] ++ [1] else []) = [1]
    rw [lenL_one hw]
    rfl⟩
  | n + 2, _ => by
    obtain ⟨r, e⟩ := stopL_head (s := s) hw (n + 1) (by omega)
    show ∃ r, (if (lenL w s (n + 2)).length < 3 then stopL w s (n + 1) ++ [n + 2] else stopL w s (n + 1)) = 1 :: r
    rw [e]
    split
    · exact ⟨r ++ [n + 2], rfl⟩
    · exact ⟨r, rfl⟩
theorem stopL_last {w s : Nat} (h0 : 1 ≤ s) (h1 : s < w) : (stopL w s (tn w s)).getLastD 0 = tn w s := by
  have h2 := tn_two h0 h1
  have h3 := lenL_turn h0 h1
  obtain ⟨k, e⟩ : ∃ k, tn w s = k + 1 := ⟨tn w s - 1, by omega⟩
  rw [e] at h3 ⊢
  show (if (lenL w s (k + 1)).length < 3 then stopL w s k ++ [k + 1] else stopL w s k).getLastD 0 = k + 1
  rw [if_pos h3, List.getLastD_concat]
theorem bef_pos {w s m : Nat} (h : 0 < m) : befL w s m = lenL w s m := by
  obtain ⟨k, rfl⟩ : ∃ k, m = k + 1 := ⟨m - 1, by omega⟩
  rfl
theorem fresh_eq {w s m : Nat} (hw : 0 < w) (h0 : 0 < m) (hm : m < tn w s) : ((lenL w s (1 + m)).filter fun g => !decide (g ∈ befL w s m)) = (len3 (pl w s (rgt w s (m + 1)).1) (w - pl w s (lft w s (m + 1)).1) false).filter fun g => !decide (g ∈ lenL w s m) := by
  obtain ⟨hR, _, _⟩ := rl_ok (m := m + 1) hw hm (by omega)
  have C := cut_ok hw h0 hm
  have hG : pl w s (rgt w s (m + 1)).1 + (w - pl w s (lft w s (m + 1)).1) ∈ lenL w s m := by
    rw [lenL_mem hw (Nat.le_of_lt hm), gapL_mem hw (Nat.le_of_lt hm)]
    exact ⟨_, C.lt, C.gap⟩
  have hp := hR.pos hR.a0 hR.am
  have hq := hR.lt (lft w s (m + 1)).1
  rw [bef_pos h0, Nat.add_comm 1 m, lenL_three hR]
  obtain ⟨s1, m1⟩ := len3_ok (A := pl w s (rgt w s (m + 1)).1) (B := w - pl w s (lft w s (m + 1)).1) (t := decide (m + 1 < (rgt w s (m + 1)).1 + (lft w s (m + 1)).1)) hp (by omega)
  obtain ⟨s2, m2⟩ := len3_ok (A := pl w s (rgt w s (m + 1)).1) (B := w - pl w s (lft w s (m + 1)).1) (t := false) hp (by omega)
  refine sorted_ext (s1.filter _) (s2.filter _) fun x => ?_
  rw [List.mem_filter, List.mem_filter, m1, m2]
  constructor
  · rintro ⟨z | z | ⟨_, z⟩, y⟩
    · exact ⟨.inl z, y⟩
    · exact ⟨.inr (.inl z), y⟩
    · subst z
      simp [hG] at y
  · rintro ⟨z | z | ⟨z, _⟩, y⟩
    · exact ⟨.inl z, y⟩
    · exact ⟨.inr (.inl z), y⟩
    · cases z
theorem fresh_three {w s m : Nat} (hw : 0 < w) (h0 : 0 < m) (hm : m < tn w s) (h3 : (lenL w s m).length = 3) : ((len3 (pl w s (rgt w s (m + 1)).1) (w - pl w s (lft w s (m + 1)).1) false).filter fun g => !decide (g ∈ lenL w s m)) = [] := by
  obtain ⟨hR, _, _⟩ := rl_ok (m := m + 1) hw hm (by omega)
  generalize (rgt w s (m + 1)).1 = a', (lft w s (m + 1)).1 = b' at hR
  have h1 : m ≠ 1 := fun e => by
    rw [e, lenL_one hw] at h3
    simp at h3
  obtain ⟨h, _, _⟩ := rl_ok hw (Nat.le_of_lt hm) (show 2 ≤ m by omega)
  generalize (rgt w s m).1 = a, (lft w s m).1 = b at h
  have hnf : ¬ (lenL w s m).length < 3 := by omega
  rw [lenL_three h, len3_few, decide_eq_false_iff_not] at hnf
  have e : m < a + b := by
    rcases Nat.lt_or_ge m (a + b) with z | z
    · exact z
    · exact absurd (.inl (by omega)) hnf
  rcases h.step hm with ⟨_, g⟩ | ⟨e', _, _, _⟩ | ⟨e', _, _, _⟩
  · obtain ⟨rfl, rfl⟩ := hR.uniq g
    refine List.filter_eq_nil_iff.mpr fun x hx => ?_
    have hp := h.pos h.a0 h.am
    have hq := h.lt b'
    obtain ⟨_, m2⟩ := len3_ok (A := pl w s a') (B := w - pl w s b') (t := false) hp (by omega)
    have hin : x ∈ lenL w s m := by
      rw [lenL_mem h.w0 h.mt, gap_mem3 h]
      rcases (m2 x).mp hx with z | z | ⟨z, _⟩
      · exact .inl z
      · exact .inr (.inl z)
      · cases z
    simp [hin]
  · omega
  · omega
def srtZ (l : List Int) : List Int := l.mergeSort fun a b => decide (a ≤ b)
theorem srtZ_perm (l : List Int) : (srtZ l).Perm l := List.mergeSort_perm _ _
theorem srtZ_sorted (l : List Int) : (srtZ l).Pairwise (· ≤ ·) := by
  have h := List.pairwise_mergeSort (le := fun a b : Int => decide (a ≤ b)) (fun a b c h1 h2 => by
    have h1 := of_decide_eq_true h1
    have h2 := of_decide_eq_true h2
    exact decide_eq_true (by omega)) (fun a b => by
    rcases Int.le_total a b with z | z
    · simp [z]
    · simp [z]) l
  exact h.imp fun h => of_decide_eq_true h
theorem srtZ_uniq {l r : List Int} (h1 : r.Perm l) (h2 : r.Pairwise (· ≤ ·)) : srtZ l = r := List.Perm.eq_of_pairwise (le := (· ≤ ·)) (fun a b _ _ h1 h2 => Int.le_antisymm h1 h2) (srtZ_sorted l) h2 ((srtZ_perm l).trans h1.symm)
end Rg
namespace Py
open PySem PySem.Spec PyProof.Rows L2 Rg
theorem nbeq (a b : Nat) : (a == b) = decide (a = b) := by by_cases h : a = b <;> simp [h]
theorem old_eq {w s m : Nat} (hw : 0 < w) (h0 : 0 < m) (hm : m < tn w s) : (srtZ (iL (gapL w s m ++ [pl w s (rgt w s (m + 1)).1, w - pl w s (lft w s (m + 1)).1]))).erase (((pl w s (rgt w s (m + 1)).1 + (w - pl w s (lft w s (m + 1)).1) : Nat) : Int)) = srtZ (iL (gapL w s (m + 1)))
    ∧ (((pl w s (rgt w s (m + 1)).1 + (w - pl w s (lft w s (m + 1)).1) : Nat) : Int)) ∈ srtZ (iL (gapL w s m ++ [pl w s (rgt w s (m + 1)).1, w - pl w s (lft w s (m + 1)).1])) := by
  have hp := (cut_perm hw h0 hm).map (fun n : Nat => (n : Int))
  generalize pl w s (rgt w s (m + 1)).1 = A, w - pl w s (lft w s (m + 1)).1 = B at *
  rw [List.map_cons] at hp
  have q := (srtZ_perm (iL (gapL w s m ++ [A, B]))).trans hp
  constructor
  · refine (srtZ_uniq ?_ ((srtZ_sorted _).sublist List.erase_sublist)).symm
    have := q.erase ((A + B : Nat) : Int)
    rw [List.erase_cons_head] at this
    exact this
  · exact q.mem_iff.mpr List.mem_cons_self
end Py
set_option maxHeartbeats 400000
namespace Py.R
open PySem PySem.Spec PyProof.Rows L2 Py Rg
def topS (i : Nat) : Stmt := PySem.Challenge.pw_ringgaps_k31_whole_a_greatest_is_cut.main.body.getD i (.Pass ⟨0, 0, 0, 0⟩)
abbrev s__law_cell_at : Stmt := topS 16
abbrev n__law_cell_at : List Str := ["script", "k"]
theorem sc__law_cell_at : FnScope n__law_cell_at ["script", "k"] (defScope s__law_cell_at) := ⟨rfl, rfl, rfl, by decide +kernel, rfl, by decide +kernel, by decide +kernel⟩
abbrev s__law_mixed : Stmt := topS 17
abbrev n__law_mixed : List Str := ["script", "k", "drawn"]
theorem sc__law_mixed : FnScope n__law_mixed ["script", "k"] (defScope s__law_mixed) := ⟨rfl, rfl, rfl, by decide +kernel, rfl, by decide +kernel, by decide +kernel⟩
abbrev s__law_pair : Stmt := topS 20
abbrev n__law_pair : List Str := ["number", "most", "whole", "step"]
theorem sc__law_pair : FnScope n__law_pair ["number", "most"] (defScope s__law_pair) := ⟨rfl, rfl, rfl, by decide +kernel, rfl, by decide +kernel, by decide +kernel⟩
abbrev s__law_turn : Stmt := topS 19
abbrev n__law_turn : List Str := ["whole", "step", "k"]
theorem sc__law_turn : FnScope n__law_turn ["whole", "step"] (defScope s__law_turn) := ⟨rfl, rfl, rfl, by decide +kernel, rfl, by decide +kernel, by decide +kernel⟩
abbrev s__law_row : Stmt := topS 21
abbrev n__law_row : List Str := ["number", "most", "whole", "step"]
theorem sc__law_row : FnScope n__law_row ["number", "most"] (defScope s__law_row) := ⟨rfl, rfl, rfl, by decide +kernel, rfl, by decide +kernel, by decide +kernel⟩
abbrev s_common : Stmt := topS 1
abbrev n_common : List Str := ["one", "other"]
theorem sc_common : FnScope n_common ["one", "other"] (defScope s_common) := ⟨rfl, rfl, rfl, by decide +kernel, rfl, by decide +kernel, by decide +kernel⟩
abbrev s_turn : Stmt := topS 2
abbrev n_turn : List Str := ["whole", "step"]
theorem sc_turn : FnScope n_turn ["whole", "step"] (defScope s_turn) := ⟨rfl, rfl, rfl, by decide +kernel, rfl, by decide +kernel, by decide +kernel⟩
abbrev s_place : Stmt := topS 3
abbrev n_place : List Str := ["row", "k"]
theorem sc_place : FnScope n_place ["row", "k"] (defScope s_place) := ⟨rfl, rfl, rfl, by decide +kernel, rfl, by decide +kernel, by decide +kernel⟩
abbrev s_order : Stmt := topS 4
abbrev n_order : List Str := ["row", "here", "k"]
theorem sc_order : FnScope n_order ["row"] (defScope s_order) := ⟨rfl, rfl, rfl, by decide +kernel, rfl, by decide +kernel, by decide +kernel⟩
abbrev s_gap_after : Stmt := topS 6
abbrev n_gap_after : List Str := ["row", "k", "whole", "n"]
theorem sc_gap_after : FnScope n_gap_after ["row", "k"] (defScope s_gap_after) := ⟨rfl, rfl, rfl, by decide +kernel, rfl, by decide +kernel, by decide +kernel⟩
abbrev s_gaps : Stmt := topS 7
abbrev n_gaps : List Str := ["row", "k"]
theorem sc_gaps : FnScope n_gaps ["row"] (defScope s_gaps) := ⟨rfl, rfl, rfl, by decide +kernel, rfl, by decide +kernel, by decide +kernel⟩
abbrev s_lengths : Stmt := topS 8
abbrev n_lengths : List Str := ["row"]
theorem sc_lengths : FnScope n_lengths ["row"] (defScope s_lengths) := ⟨rfl, rfl, rfl, by decide +kernel, rfl, by decide +kernel, by decide +kernel⟩
abbrev s_stops : Stmt := topS 13
abbrev n_stops : List Str := ["whole", "step", "many"]
theorem sc_stops : FnScope n_stops ["whole", "step"] (defScope s_stops) := ⟨rfl, rfl, rfl, by decide +kernel, rfl, by decide +kernel, by decide +kernel⟩
abbrev s_new_lengths : Stmt := topS 14
abbrev n_new_lengths : List Str := ["whole", "step", "found", "before", "many", "some", "length"]
theorem sc_new_lengths : FnScope n_new_lengths ["whole", "step"] (defScope s_new_lengths) := ⟨rfl, rfl, rfl, by decide +kernel, rfl, by decide +kernel, by decide +kernel⟩
abbrev s_cut : Stmt := topS 12
abbrev n_cut : List Str := ["row", "whole", "step", "many", "here", "back", "k", "on", "n"]
theorem sc_cut : FnScope n_cut ["row"] (defScope s_cut) := ⟨rfl, rfl, rfl, by decide +kernel, rfl, by decide +kernel, by decide +kernel⟩
abbrev s_widest : Stmt := topS 9
abbrev n_widest : List Str := ["row", "most", "k"]
theorem sc_widest : FnScope n_widest ["row"] (defScope s_widest) := ⟨rfl, rfl, rfl, by decide +kernel, rfl, by decide +kernel, by decide +kernel⟩
abbrev s_next_point : Stmt := topS 10
abbrev n_next_point : List Str := ["row", "k", "some"]
theorem sc_next_point : FnScope n_next_point ["row", "k"] (defScope s_next_point) := ⟨rfl, rfl, rfl, by decide +kernel, rfl, by decide +kernel, by decide +kernel⟩
abbrev s_law : Stmt := topS 22
abbrev n_law : List Str := ["script", "whole", "step", "many", "long", "few", "new", "more", "row", "k", "n", "first", "second", "old", "fresh", "length", "at"]
theorem sc_law : FnScope n_law ["script"] (defScope s_law) := ⟨rfl, rfl, rfl, by decide +kernel, rfl, by decide +kernel, by decide +kernel⟩
section
variable {P : Program} {w : World} {K : PySem.W.Frag} {mg : Str → Option Value} {base : Heap}
-- slots: 0 script, 1 k
theorem f__law_cell_at (H__law_cell_at : Has K mg "_law_cell_at" s__law_cell_at) (b_len : mg "len" = none) : Fn P w K mg base "_law_cell_at" 1 T__law_cell_at := by
  refine fn_mk2 H__law_cell_at sc__law_cell_at (fun _ _ _ _ _ _ us hl => match us, hl with | [_, _], _ => rfl) ?_ ?_
  · rintro rs O Φ ⟨ns, k, rfl, h⟩
    rfl
  · rintro f cdv A outer s H E rs O Φ hr ⟨ns, k, rfl, h⟩
    refine sb_cons (s_if (tc (c_lt (x_var 1) (x_lenS b_len (x_var 0)))) (fun hk => ?_) (fun hk => ?_))
    · have hk' : k < ns.length := by simpa using hk
      refine sb_cons (s_ret (x_ixS (n := ns[k]) (x_var 0) (x_var 1) ?_) ?_)
      · exact atI_nat (List.getElem?_eq_getElem hk')
      · have e : cellN ns k = ns[k] := by unfold cellN; rw [List.getElem?_eq_getElem hk']; rfl
        rw [e] at h
        exact h
    · have hk' : ns.length ≤ k := by simpa using hk
      refine sb_nil (sb_cons (s_ret x_int ?_))
      have e : cellN ns k = 0 := by unfold cellN; rw [List.getElem?_eq_none hk']; rfl
      rw [e] at h
      exact h
-- slots: 0 script, 1 k, 2 drawn
theorem f__law_mixed (H__law_mixed : Has K mg "_law_mixed" s__law_mixed) (F__law_cell_at : Fn P w K mg base "_law_cell_at" 1 T__law_cell_at) : Fn P w K mg base "_law_mixed" 2 T__law_mixed := by
  refine fn_mk2 H__law_mixed sc__law_mixed (fun _ _ _ _ _ _ us hl => match us, hl with | [_, _], _ => rfl) ?_ ?_
  · rintro rs O Φ ⟨ns, k, rfl, h⟩
    rfl
  · rintro f cdv A outer s H E rs O Φ hr ⟨ns, k, rfl, h⟩
    have hd := mixD_lt ns k
    refine sb_cons (s_set 2 sc__law_mixed.nd (r := vI (mixD ns k)) (x_mod (x_mul (x_add (x_add (g_call F__law_cell_at hr (a_cons (x_var 0) (a_cons (x_var 1) a_nil)) ⟨ns, k, rfl, rfl, rfl⟩) (x_mul x_int (x_var 1) (.inl (by decide)))) x_int) x_int (.inr (by decide))) x_int (by decide)) ?_)
    refine sb_cons (s_ret (x_mod (x_add (x_add (x_mul (x_var 2) (x_var 2) (.inl (by omega))) (x_mul x_int (x_var 2) (.inl (by decide)))) (x_var 1)) x_int (by decide)) ?_)
    rw [mixN_cast] at h
    exact h
-- slots: 0 number, 1 most, 2 whole, 3 step
theorem f__law_pair (H__law_pair : Has K mg "_law_pair" s__law_pair) : Fn P w K mg base "_law_pair" 1 T__law_pair := by
  refine fn_mk2 H__law_pair sc__law_pair (fun _ _ _ _ _ _ us hl => match us, hl with | [_, _], _ => rfl) ?_ ?_
  · rintro rs O Φ ⟨ds, d, rfl, ⟨n, most, h1, h2, rfl, rfl⟩, h⟩
    rfl
  · rintro f cdv A outer s0 H E rs O Φ hr ⟨ds, d, rfl, ⟨n, most, h1, h2, rfl, rfl⟩, h⟩
    have hw := prW_b (n := n) h1
    have e1 : (2 : Int) + (n : Int) % ((most : Int) - 1) = (prW n most : Int) := by
      unfold prW
      have : ((most : Int) - 1) = ((most - 1 : Nat) : Int) := by omega
      rw [this]
      push_cast
      rfl
    have e2 : (1 : Int) + (n : Int) / 128 % ((prW n most : Int) - 1) = (prS n most : Int) := by
      unfold prS
      have : ((prW n most : Int) - 1) = ((prW n most - 1 : Nat) : Int) := by omega
      rw [this]
      push_cast
      rfl
    refine sb_cons (s_set 2 sc__law_pair.nd (r := vI (prW n most)) ((x_add x_int (x_mod (x_var 0) (x_sub (x_var 1) x_int) (by omega))).cast (by rw [e1])) ?_)
    refine sb_cons (s_set 3 sc__law_pair.nd (r := vI (prS n most)) ((x_add x_int (x_mod (x_fdiv (x_var 0) x_int (by decide)) (x_sub (x_var 2) x_int) (by omega))).cast (by rw [e2])) ?_)
    exact sb_cons (s_ret (y_tup (ad_cons (x_var 2) (ad_cons (x_var 3) ad_nil))) h)
-- slots: 0 whole, 1 step, 2 k
theorem f__law_turn (H__law_turn : Has K mg "_law_turn" s__law_turn) (b_range : mg "range" = none) : Fn P w K mg base "_law_turn" 1 T__law_turn := by
  refine fn_mk2 H__law_turn sc__law_turn (fun _ _ _ _ _ _ us hl => match us, hl with | [_, _], _ => rfl) ?_ ?_
  · rintro rs O Φ ⟨ds, d, rfl, ⟨w, s, h1, h2, h3, rfl, rfl⟩, h⟩
    rfl
  · rintro f cdv A outer s0 H E rs O Φ hr ⟨ds, d, rfl, ⟨w, s, h1, h2, h3, rfl, rfl⟩, h⟩
    have hu := hr.units
    have ht := tn_pos (s := s) h1
    have htl := tn_le w s
    refine sb_cons (s_ret (x_ixL (d := .int (tn w s)) (x_lc (xs := List.range w) [("k", 2)] [2] (fun i => [some (vI w), some (vI s), some (vI (1 + (i : Int)))]) (fun i => (1 + i) * s % w == 0) (fun i => .int (1 + (i : Int))) sc__law_turn.nd
      (IT.as (it_range2 (by rfl) b_range x_int (x_add (x_var 0) x_int) (by omega)) ?_) (blkOk_by (N := n__law_turn) (sc := defScope s__law_turn) (by decide +kernel)) ?_
      (fun i hi _ _ _ _ _ => tg_name 2 sc__law_turn.nd)
      (fun i hi O' hO _ _ _ _ _ => ET.cast (tc (c_eq (x_mod (x_mul (x_var 2) (x_var 1) (.inr (by omega))) (x_var 0) (by omega)) x_int)) (beq_nat ((1 + i) * s % w) 0 (by push_cast; rfl)))
      (fun i hi _ O' hO _ _ _ _ _ => x_var 2)) x_int ?_) ?_)
    · have e : ((w : Int) + 1 - 1).toNat = w := by omega
      rw [e]
    · simp; omega

    · refine atI_nat (j := 0) ?_
      rw [List.getElem?_map, turn_head h1]
      simp
      omega
    · exact h
-- slots: 0 number, 1 most, 2 whole, 3 step
theorem f__law_row (H__law_row : Has K mg "_law_row" s__law_row) (F__law_pair : Fn P w K mg base "_law_pair" 1 T__law_pair) (F__law_turn : Fn P w K mg base "_law_turn" 1 T__law_turn) : Fn P w K mg base "_law_row" 2 T__law_row := by
  refine fn_mk2 H__law_row sc__law_row (fun _ _ _ _ _ _ us hl => match us, hl with | [_, _], _ => rfl) ?_ ?_
  · rintro rs O Φ ⟨ds, d, rfl, ⟨n, most, h1, h2, rfl, rfl⟩, h⟩
    rfl
  · rintro f cdv A outer s0 H E rs O Φ hr ⟨ds, d, rfl, ⟨n, most, h1, h2, rfl, rfl⟩, h⟩
    have hw := prW_b (n := n) h1
    have hs := prS_b (n := n) h1
    have ht := tn_pos (w := prW n most) (s := prS n most) (by omega)
    have htl := tn_le (prW n most) (prS n most)
    refine sb_cons (s_asg (y_call F__law_pair (hr.mono (by decide)) (ad_cons (x_var 0) (ad_cons (x_var 1) ad_nil)) ⟨n, most, h1, h2, rfl, rfl⟩) (tg_tup rfl (tgs_cons (tg_name 2 sc__law_row.nd) (tgs_cons (tg_name 3 sc__law_row.nd) tgs_nil))) ?_)
    have e : (1 : Int) + (n : Int) / 16384 % (tn (prW n most) (prS n most) : Int) = (prM n most : Int) := by
      unfold prM
      push_cast
      rfl
    exact sb_cons (s_ret (y_tup (ad_cons (x_var 2) (ad_cons (x_var 3) (ad_cons ((x_add x_int (x_mod (x_fdiv (x_var 0) x_int (by decide)) (y_call F__law_turn (hr.mono (by decide)) (ad_cons (x_var 2) (ad_cons (x_var 3) ad_nil)) ⟨prW n most, prS n most, by omega, by omega, by omega, rfl, rfl⟩) (by omega))).cast (by rw [e])) ad_nil)))) h)
-- slots: 0 one, 1 other
theorem f_common (H_common : Has K mg "common" s_common) : Fn P w K mg base "common" 1 T_common := by
  refine fn_mk2 H_common sc_common (fun _ _ _ _ _ _ us hl => match us, hl with | [_, _], _ => rfl) ?_ ?_
  · rintro rs O Φ ⟨ds, d, rfl, ⟨a, b, rfl, rfl⟩, h⟩
    rfl
  · rintro f cdv A outer s0 H E rs O Φ hr ⟨ds, d, rfl, ⟨a, b, rfl, rfl⟩, h⟩
    refine sb_while (fun (t : Nat × Nat) => [some (vI t.1), some (vI t.2)]) (fun _ => O) (fun t => Nat.gcd t.1 t.2 = Nat.gcd a b) (fun t => t.2) (a, b) rfl (by repeat constructor) rfl ?_
    rintro ⟨x, y⟩ hg
    refine ⟨_, tc (c_gtN (m := 0) (x_var 1) x_int), fun hk => ?_, fun hk => ?_⟩
    · have hk' : 0 < y := of_decide_eq_true hk
      refine sb_cons (y_par 0 1 sc_common.nd (x_var 1) (x_modN (x_var 0) (x_var 1) hk') (sb_nil ⟨(y, x % y), Nat.mod_lt _ hk', ?_, by repeat constructor, rfl⟩))
      show Nat.gcd y (x % y) = _
      rw [← hg, Nat.gcd_comm y, ← Nat.gcd_rec, Nat.gcd_comm]
    · have hk' : ¬ 0 < y := of_decide_eq_false hk
      obtain rfl : y = 0 := by omega
      refine sb_cons (s_ret (x_var 0) ?_)
      have e : x = Nat.gcd a b := by rw [← hg]; exact (Nat.gcd_zero_right x).symm
      rw [e]
      exact h
-- slots: 0 whole, 1 step
theorem f_turn (H_turn : Has K mg "turn" s_turn) (F_common : Fn P w K mg base "common" 1 T_common) : Fn P w K mg base "turn" 2 T_turn := by
  refine fn_mk2 H_turn sc_turn (fun _ _ _ _ _ _ us hl => match us, hl with | [_, _], _ => rfl) ?_ ?_
  · rintro rs O Φ ⟨ds, d, rfl, ⟨w, s, h1, h2, rfl, rfl⟩, h⟩
    rfl
  · rintro f cdv A outer s0 H E rs O Φ hr ⟨ds, d, rfl, ⟨w, s, h1, h2, rfl, rfl⟩, h⟩
    exact sb_cons (s_ret (x_fdivW (x_var 0) (y_call F_common (hr.mono (by decide)) (ad_cons (x_var 0) (ad_cons (x_var 1) ad_nil)) ⟨w, s, rfl, rfl⟩) (gcd_pos h1) (Nat.lt_of_le_of_lt (Nat.le_of_dvd h1 (Nat.gcd_dvd_left w s)) h2)) h)
-- slots: 0 row, 1 k
theorem f_place (H_place : Has K mg "place" s_place) : Fn P w K mg base "place" 1 T_place := by
  refine fn_mk2 H_place sc_place (fun _ _ _ _ _ _ us hl => match us, hl with | [_, _], _ => rfl) ?_ ?_
  · rintro rs O Φ ⟨ds, d, rfl, ⟨w, s, m, k, h1, h2, h3, rfl, rfl⟩, h⟩
    rfl
  · rintro f cdv A outer s0 H E rs O Φ hr ⟨ds, d, rfl, ⟨w, s, m, k, h1, h2, h3, rfl, rfl⟩, h⟩
    refine sb_cons (s_ret (x_mod (x_mul (x_var 1) (x_ixT (x_var 0) x_int rfl) (.inr (by omega))) (x_ixT (x_var 0) x_int rfl) (by omega)) ?_)
    exact_mod_cast h
-- slots: 0 row, 1 here, 2 k
theorem f_order (H_order : Has K mg "order" s_order) (F_place : Fn P w K mg base "place" 1 T_place) (b_range : mg "range" = none) (b_sorted : mg "sorted" = none) (b_tuple : mg "tuple" = none) : Fn P w K mg base "order" 2 T_order := by
  refine fn_mk2 H_order sc_order (fun _ _ _ _ _ _ us hl => match us, hl with | [_], _ => rfl) ?_ ?_
  · rintro rs O Φ ⟨ds, fs, rfl, ⟨w, s, m, h1, rfl, rfl⟩, h⟩
    rfl
  · rintro f cdv A outer s0 H E rs O Φ hr ⟨ds, fs, rfl, ⟨w, s, m, h1, rfl, rfl⟩, h⟩
    have hmw := h1.mw
    have hw1 := h1.w1
    refine sb_cons (s_ret (x_tupleM (ds := (ordL w s m).map nD) b_tuple (EX.cast (x_lc0 (xs := ordP w s m) [("here", 1), ("k", 2)] [1, 2] (fun p => [some (.d (rowD w s m)), some (vI p.1), some (vI p.2)]) (fun p => nD p.2) sc_order.nd
      (IT.as (k := fun p => .d (npD p)) (it_list (x_sortedP (ps := (List.range m).map fun k => ipD (k * s % w, k)) (ps' := (ordP w s m).map ipD) b_sorted
        (EX.cast (x_lc0 (xs := List.range m) [("k", 2)] [2] (fun k => [some (.d (rowD w s m)), none, some (vI (k : Nat))]) (fun k => pD (ipD (k * s % w, k))) sc_order.nd
          (it_rangeN b_range (x_ixT (x_var 0) x_int rfl) (by omega)) (blkOk_by (N := n_order) (sc := defScope s_order) (by decide +kernel)) ?a2
          (fun k hk _ _ _ _ _ => tg_name 2 sc_order.nd)
          (fun k hk O' hO _ _ _ _ _ => y_tup (ad_cons (y_call F_place (hr.mono (by decide)) (ad_cons (x_var 0) (ad_cons (x_var 2) ad_nil)) ⟨w, s, m, k, h1.w0, h1.w1, h1.s1, rfl, rfl⟩) (ad_cons (x_var 2) ad_nil)))) ?a3) ?a4 ?a5)) ?a6)
        (blkOk_by (N := n_order) (sc := defScope s_order) (by decide +kernel)) ?a7
        (fun p hp _ _ _ _ _ => tg_tup rfl (tgs_cons (tg_name 1 sc_order.nd) (tgs_cons (tg_name 2 sc_order.nd) tgs_nil)))
        (fun p hp O' hO _ _ _ _ _ => x_var 2)) ?a8)) ?a9)
    case a2 => simp; omega
    case a3 => rw [List.map_map]; rfl
    case a4 =>
      have hp := (ordP_perm h1.w0 h1.m1).map ipD
      rw [List.map_map] at hp
      exact hp
    case a5 =>
      rw [List.pairwise_map]
      refine (ordP_sorted w s m).imp fun {a b} hab => lexle_of (.inl ?_)
      show ((a.1 : Int)) < (b.1 : Int)
      omega
    case a6 => rw [List.map_map, List.map_map]; rfl
    case a7 => rw [ordP_len h1.w0 h1.m1]; omega
    case a8 =>
      have e : (ordP w s m).map (fun p => nD p.2) = (ordL w s m).map nD := by unfold ordL; rw [List.map_map]; rfl
      rw [e]
    case a9 => exact h
-- slots: 0 row, 1 k, 2 whole, 3 n
theorem f_gap_after (H_gap_after : Has K mg "gap_after" s_gap_after) (F_place : Fn P w K mg base "place" 1 T_place) (b_range : mg "range" = none) (b_min : mg "min" = none) : Fn P w K mg base "gap_after" 2 T_gap_after := by
  refine fn_mk2 H_gap_after sc_gap_after (fun _ _ _ _ _ _ us hl => match us, hl with | [_, _], _ => rfl) ?_ ?_
  · rintro rs O Φ ⟨ds, d, rfl, ⟨w, s, m, k, h1, hk, rfl, rfl⟩, h⟩
    rfl
  · rintro f cdv A outer s0 H E rs O Φ hr ⟨ds, d, rfl, ⟨w, s, m, k, h1, hk, rfl, rfl⟩, h⟩
    have hmw := h1.mw
    have hw1 := h1.w1
    have hw0 := h1.w0
    have hm1 := h1.m1
    refine sb_cons (s_set 2 sc_gap_after.nd (x_ixT (x_var 0) x_int rfl) ?_)
    refine sb_cons (s_ret (x_minN (ns := (List.range m).map (far w s k)) b_min (EX.cast (x_lc0 (xs := List.range m) [("n", 3)] [3] (fun n => [some (.d (rowD w s m)), some (vI k), some (vI w), some (vI (n : Nat))]) (fun n => nD (far w s k n)) sc_gap_after.nd
      (it_rangeN b_range (x_ixT (x_var 0) x_int rfl) (by omega)) (blkOk_by (N := n_gap_after) (sc := defScope s_gap_after) (by decide +kernel)) ?a1
      (fun n hn _ _ _ _ _ => tg_name 3 sc_gap_after.nd)
      (fun n hn O' hO _ _ _ _ _ => EX.cast (x_add (x_mod (x_sub (x_sub (y_call F_place (hr.mono (by decide)) (ad_cons (x_var 0) (ad_cons (x_var 3) ad_nil)) ⟨w, s, m, n, h1.w0, h1.w1, h1.s1, rfl, rfl⟩) (y_call F_place (hr.mono (by decide)) (ad_cons (x_var 0) (ad_cons (x_var 1) ad_nil)) ⟨w, s, m, k, h1.w0, h1.w1, h1.s1, rfl, rfl⟩)) x_int) (x_var 2) (by omega)) x_int) ?a2)) ?a3) ?a4 ?a5) h)
    case a1 => simp; omega
    case a2 =>
      have hn' : n < m := by simpa using hn
      have e := far_int (w := w) (s := s) (k := k) (n := n) hw0 (by omega) (by omega)
      unfold pl at e
      rw [e]
    case a3 => rw [List.map_map]; rfl
    case a4 =>
      obtain ⟨n, hn, e⟩ := gapN_ex hw0 hk hm1
      exact List.mem_map.mpr ⟨n, by simpa using hn, e.symm⟩
    case a5 =>
      intro y hy
      obtain ⟨n, hn, rfl⟩ := List.mem_map.mp hy
      exact gapN_le (by simpa using hn)
-- slots: 0 row, 1 k
theorem f_gaps (H_gaps : Has K mg "gaps" s_gaps) (F_order : Fn P w K mg base "order" 2 T_order) (F_gap_after : Fn P w K mg base "gap_after" 2 T_gap_after) (b_tuple : mg "tuple" = none) : Fn P w K mg base "gaps" 3 T_gaps := by
  refine fn_mk2 H_gaps sc_gaps (fun _ _ _ _ _ _ us hl => match us, hl with | [_], _ => rfl) ?_ ?_
  · rintro rs O Φ ⟨ds, fs, rfl, ⟨w, s, m, h1, rfl, rfl⟩, h⟩
    rfl
  · rintro f cdv A outer s0 H E rs O Φ hr ⟨ds, fs, rfl, ⟨w, s, m, h1, rfl, rfl⟩, h⟩
    have hmw := h1.mw
    have hw1 := h1.w1
    have hl := ordL_len h1.w0 h1.m1
    refine sb_cons (s_ret (x_tupleM (ds := (gapL w s m).map nD) b_tuple (EX.cast (x_lc0 (xs := ordL w s m) [("k", 1)] [1] (fun k => [some (.d (rowD w s m)), some (vI (k : Nat))]) (fun k => nD (gapN w s m k)) sc_gaps.nd
      (IT.as (k := fun k => vI (k : Nat)) (it_tup (EX.td (y_callT F_order (hr.mono (by decide)) (ad_cons (x_var 0) ad_nil) ⟨w, s, m, h1, rfl, rfl⟩))) ?a0) (blkOk_by (N := n_gaps) (sc := defScope s_gaps) (by decide +kernel)) ?a1
      (fun k hk _ _ _ _ _ => tg_name 1 sc_gaps.nd)
      (fun k hk O' hO _ _ _ _ _ => y_call F_gap_after (hr.mono (by decide)) (ad_cons (x_var 0) (ad_cons (x_var 1) ad_nil)) ⟨w, s, m, k, h1, (ordL_mem h1.w0 h1.m1).mp hk, rfl, rfl⟩)) ?a2)) h)
    case a0 => rw [List.map_map]; rfl
    case a1 => omega
    case a2 => unfold gapL; rw [List.map_map]; rfl
-- slots: 0 row
theorem f_lengths (H_lengths : Has K mg "lengths" s_lengths) (F_gaps : Fn P w K mg base "gaps" 3 T_gaps) (b_tuple : mg "tuple" = none) (b_sorted : mg "sorted" = none) (b_set : mg "set" = none) : Fn P w K mg base "lengths" 4 T_lengths := by
  refine fn_mk2 H_lengths sc_lengths (fun _ _ _ _ _ _ us hl => match us, hl with | [_], _ => rfl) ?_ ?_
  · rintro rs O Φ ⟨ds, d, rfl, ⟨w, s, m, h1, rfl, rfl⟩, h⟩
    rfl
  · rintro f cdv A outer s0 H E rs O Φ hr ⟨ds, d, rfl, ⟨w, s, m, h1, rfl, rfl⟩, h⟩
    have hmw := h1.mw
    have hw1 := h1.w1
    exact sb_cons (s_ret (x_tuple b_tuple (x_sortedSetN (ns := gapL w s m) (D := lenL w s m) b_sorted b_set (EX.td (y_callT F_gaps (hr.mono (by decide)) (ad_cons (x_var 0) ad_nil) ⟨w, s, m, h1, rfl, rfl⟩)) (by rw [gapL_len h1.w0 h1.m1]; omega) (fun k => lenL_mem h1.w0 h1.m1) (lenL_sorted w s m) (lenL_few h1.w0 h1.m1 h1.m0 h1.w1))) h)
-- slots: 0 whole, 1 step, 2 many
theorem f_stops (H_stops : Has K mg "stops" s_stops) (F_turn : Fn P w K mg base "turn" 2 T_turn) (F_lengths : Fn P w K mg base "lengths" 4 T_lengths) (b_tuple : mg "tuple" = none) (b_range : mg "range" = none) (b_len : mg "len" = none) : Fn P w K mg base "stops" 5 T_stops := by
  refine fn_mk2 H_stops sc_stops (fun _ _ _ _ _ _ us hl => match us, hl with | [_, _], _ => rfl) ?_ ?_
  · rintro rs O Φ ⟨ds, d, rfl, ⟨w, s, h0, h1, h2, rfl, rfl⟩, h⟩
    rfl
  · rintro f cdv A outer s0 H E rs O Φ hr ⟨ds, d, rfl, ⟨w, s, h0, h1, h2, rfl, rfl⟩, h⟩
    have htl := tn_le w s
    refine sb_cons (s_ret (x_tuple (ds := (stopL w s (tn w s)).map nD) b_tuple (EX.cast (x_lc (xs := List.range (tn w s)) [("many", 2)] [2] (fun i => [some (vI w), some (vI s), some (vI ((1 + i : Nat) : Int))]) (fun i => decide ((lenL w s (1 + i)).length < 3)) (fun i => nD (1 + i)) sc_stops.nd
      (IT.as (k := fun i => vI ((1 + i : Nat) : Int)) (it_range2N (lo := 1) (n := tn w s + 1) b_range x_int (x_addN (m := 1) (y_call F_turn (hr.mono (by decide)) (ad_cons (x_var 0) (ad_cons (x_var 1) ad_nil)) ⟨w, s, by omega, Nat.lt_of_le_of_lt h2 Nat.lt_two_pow_self, rfl, rfl⟩) x_int) (by omega)) rfl) (blkOk_by (N := n_stops) (sc := defScope s_stops) (by decide +kernel)) ?a1
      (fun i hi _ _ _ _ _ => tg_name 2 sc_stops.nd)
      (fun i hi O' hO _ _ _ _ _ => ET.cast (tc (c_ltN (m := 3) (x_lenT b_len (y_call F_lengths (hr.mono (by decide)) (ad_cons (y_tup (ad_cons (x_var 0) (ad_cons (x_var 1) (ad_cons (x_var 2) ad_nil)))) ad_nil) ⟨w, s, 1 + i, row_at h0 h1 h2 (by simpa using hi), rfl, rfl⟩)) x_int)) ?a2)
      (fun i hi hp O' hO _ _ _ _ _ => x_var 2)) ?a3)) h)
    case a1 => simp; omega
    case a2 => rw [List.length_map]
    case a3 => rw [← stopL_filter, List.map_map]; rfl
-- slots: 0 whole, 1 step, 2 found, 3 before, 4 many, 5 some, 6 length
theorem f_new_lengths (H_new_lengths : Has K mg "new_lengths" s_new_lengths) (F_turn : Fn P w K mg base "turn" 2 T_turn) (F_lengths : Fn P w K mg base "lengths" 4 T_lengths) (b_tuple : mg "tuple" = none) (b_range : mg "range" = none) : Fn P w K mg base "new_lengths" 5 T_new_lengths := by
  refine fn_mk2 H_new_lengths sc_new_lengths (fun _ _ _ _ _ _ us hl => match us, hl with | [_, _], _ => rfl) ?_ ?_
  · rintro rs O Φ ⟨ds, d, rfl, ⟨w, s, h0, h1, h2, rfl, rfl⟩, h⟩
    rfl
  · rintro f cdv A outer s0 H E rs O Φ hr ⟨ds, d, rfl, ⟨w, s, h0, h1, h2, rfl, rfl⟩, h⟩
    have htl := tn_le w s
    refine sb_cons (s_setG 2 sc_new_lengths.nd g_newL ?_)
    rintro r O1 ⟨q, rfl, rfl, hq⟩
    refine sb_cons (s_set 3 sc_new_lengths.nd (y_tup ad_nil) ?_)
    refine sb_for (it_range2N (lo := 1) (n := tn w s + 1) b_range x_int (x_addN (m := 1) (y_call F_turn (hr.mono (by decide)) (ad_cons (x_var 0) (ad_cons (x_var 1) ad_nil)) ⟨w, s, by omega, Nat.lt_of_le_of_lt h2 Nat.lt_two_pow_self, rfl, rfl⟩) x_int) (by omega)) (fun i (_ : Unit) => [some (vI w), some (vI s), some (.v (.ref q)), some (vT ((befL w s i).map nD)), none, none, none]) (fun i _ => (q, .lst ((newL w s i).map npD)) :: O) (fun _ _ => True) () trivial (by repeat constructor) rfl ?a1 ?a2
    case a1 =>
      rintro i _ hi _
      have hi' : i < tn w s := by simpa using hi
      have e : (List.range (tn w s + 1 - 1))[i] = i := List.getElem_range _
      rw [e]
      have R := row_at h0 h1 h2 hi'
      have hf := lenL_few R.w0 R.m1 R.m0 R.w1
      have hn := newL_len (s := s) R.w0 R.w1 i (by omega)
      refine ⟨_, _, tg_name 4 sc_new_lengths.nd, ?_⟩
      refine sb_cons (s_set 5 sc_new_lengths.nd (y_call F_lengths (hr.mono (by decide)) (ad_cons (y_tup (ad_cons (x_var 0) (ad_cons (x_var 1) (ad_cons (x_var 4) ad_nil)))) ad_nil) ⟨w, s, 1 + i, R, rfl, rfl⟩) ?_)
      refine sb_cons (s_extend (fs := (newAt w s i).map npD) (x_var 2) (EX.cast (x_lc (xs := lenL w s (1 + i)) [("length", 6)] [6] (fun g => [some (vI w), some (vI s), some (.v (.ref q)), some (vT ((befL w s i).map nD)), some (vI ((1 + i : Nat) : Int)), some (vT ((lenL w s (1 + i)).map nD)), some (vI (g : Nat))]) (fun g => !decide (g ∈ befL w s i)) (fun g => npD (1 + i, g)) sc_new_lengths.nd
        (IT.as (k := fun g => vI (g : Nat)) (it_tup (x_var 5)) ?b0) (blkOk_by (N := n_new_lengths) (sc := defScope s_new_lengths) (by decide +kernel)) ?b1
        (fun g hg _ _ _ _ _ => tg_name 6 sc_new_lengths.nd)
        (fun g hg O' hO _ _ _ _ _ => tc (c_niTN (x_var 6) (x_var 3)))
        (fun g hg hp O' hO _ _ _ _ _ => y_tup (ad_cons (x_var 4) (ad_cons (x_var 6) ad_nil)))) ?b2) List.mem_cons_self ?b3 (sb_cons (s_set 3 sc_new_lengths.nd (x_var 5) (sb_nil ⟨(), trivial, ?b4, ?b5⟩))))
      case b0 => rw [List.map_map]; rfl
      case b1 => omega
      case b2 => unfold newAt; rw [List.map_map]; rfl
      case b3 =>
        have c := List.length_filter_le (fun g => !decide (g ∈ befL w s i)) (lenL w s (1 + i))
        unfold newAt
        rw [List.length_map, List.length_map, List.length_map]
        omega
      case b4 => rw [bef_eq]; repeat constructor
      case b5 =>
        rw [setO_head hq]
        show _ = (q, OO.lst ((newL w s i ++ newAt w s i).map npD)) :: O
        rw [List.map_append]
    case a2 =>
      rintro _ _
      have e : (List.range (tn w s + 1 - 1)).length = tn w s := by simp
      rw [e]
      exact sb_let 2 rfl hq (sb_cons (s_ret (x_tuple b_tuple (x_var 2)) h))
-- slots: 0 row, 1 whole, 2 step, 3 many, 4 here, 5 back, 6 k, 7 on, 8 n
theorem f_cut (H_cut : Has K mg "cut" s_cut) (F_place : Fn P w K mg base "place" 1 T_place) (b_min : mg "min" = none) (b_range : mg "range" = none) : Fn P w K mg base "cut" 2 T_cut := by
  refine fn_mk2 H_cut sc_cut (fun _ _ _ _ _ _ us hl => match us, hl with | [_], _ => rfl) ?_ ?_
  · rintro rs O Φ ⟨ds, d, rfl, ⟨w, s, m, h1, h2, rfl, rfl⟩, h⟩
    rfl
  · rintro f cdv A outer s0 H E rs O Φ hr ⟨ds, d, rfl, ⟨w, s, m, h1, h2, rfl, rfl⟩, h⟩
    have hu := hr.units
    have hmw := h1.mw
    have hw1 := h1.w1
    have hw0 := h1.w0
    refine sb_cons (s_asg (x_var 0) (tg_tup rfl (tgs_cons (tg_name 1 sc_cut.nd) (tgs_cons (tg_name 2 sc_cut.nd) (tgs_cons (tg_name 3 sc_cut.nd) tgs_nil)))) ?_)
    refine sb_cons (s_set 4 sc_cut.nd (y_call F_place (hr.mono (by decide)) (ad_cons (x_var 0) (ad_cons (x_var 3) ad_nil)) ⟨w, s, m, m, hw0, hw1, h1.s1, rfl, rfl⟩) ?_)
    obtain ⟨b1, b2⟩ := min_back hw0 h1.m0 h2
    refine sb_cons (s_asg (x_minP b_min (EX.cast (x_lc0 (xs := List.range m) [("k", 6)] [6] (fun k => [some (.d (rowD w s m)), some (vI w), some (vI s), some (vI m), some (vI ((pl w s m : Nat) : Int)), none, some (vI (k : Nat)), none, none]) (fun k => pD ((((pl w s m : Nat) : Int) - (pl w s k : Nat)) % (w : Int), (k : Int))) sc_cut.nd
      (it_rangeN b_range (x_var 3) (by omega)) (blkOk_by (N := n_cut) (sc := defScope s_cut) (by decide +kernel)) ?a1
      (fun k hk _ _ _ _ _ => tg_name 6 sc_cut.nd)
      (fun k hk O' hO _ _ _ _ _ => y_tup (ad_cons (x_mod (x_sub (x_var 4) (y_call F_place (hr.mono (by decide)) (ad_cons (x_var 0) (ad_cons (x_var 6) ad_nil)) ⟨w, s, m, k, hw0, hw1, h1.s1, rfl, rfl⟩)) (x_var 1) (by omega)) (ad_cons (x_var 6) ad_nil)))) ?a2) b1 b2) (tg_tup rfl (tgs_cons (tg_name 5 sc_cut.nd) (tgs_cons (tg_name 6 sc_cut.nd) tgs_nil))) ?_)
    case a1 => simp; omega
    case a2 => rw [List.map_map]; rfl
    obtain ⟨c1, c2⟩ := min_on hw0 h1.m0 h2
    refine sb_cons (s_asg (x_minP b_min (EX.cast (x_lc0 (xs := List.range m) [("n", 8)] [8] (fun k => [some (.d (rowD w s m)), some (vI w), some (vI s), some (vI m), some (vI ((pl w s m : Nat) : Int)), some (vI ((pl w s m - (ahd w s m).1 : Nat) : Int)), some (vI ((ahd w s m).2 : Nat)), none, some (vI (k : Nat))]) (fun k => pD ((((pl w s k : Nat) : Int) - (pl w s m : Nat)) % (w : Int), (k : Int))) sc_cut.nd
      (it_rangeN b_range (x_var 3) (by omega)) (blkOk_by (N := n_cut) (sc := defScope s_cut) (by decide +kernel)) ?a3
      (fun k hk _ _ _ _ _ => tg_name 8 sc_cut.nd)
      (fun k hk O' hO _ _ _ _ _ => y_tup (ad_cons (x_mod (x_sub (y_call F_place (hr.mono (by decide)) (ad_cons (x_var 0) (ad_cons (x_var 8) ad_nil)) ⟨w, s, m, k, hw0, hw1, h1.s1, rfl, rfl⟩) (x_var 4)) (x_var 1) (by omega)) (ad_cons (x_var 8) ad_nil)))) ?a4) c1 c2) (tg_tup rfl (tgs_cons (tg_name 7 sc_cut.nd) (tgs_cons (tg_name 8 sc_cut.nd) tgs_nil))) ?_)
    case a3 => simp; omega
    case a4 => rw [List.map_map]; rfl
    exact sb_cons (s_ret (y_tup (ad_cons (x_var 6) (ad_cons (x_var 8) (ad_cons (x_var 5) (ad_cons (x_var 7) ad_nil))))) h)
-- slots: 0 row, 1 most, 2 k
theorem f_widest (H_widest : Has K mg "widest" s_widest) (F_lengths : Fn P w K mg base "lengths" 4 T_lengths) (F_gap_after : Fn P w K mg base "gap_after" 2 T_gap_after) (b_tuple : mg "tuple" = none) (b_range : mg "range" = none) : Fn P w K mg base "widest" 5 T_widest := by
  refine fn_mk2 H_widest sc_widest (fun _ _ _ _ _ _ us hl => match us, hl with | [_], _ => rfl) ?_ ?_
  · rintro rs O Φ ⟨ds, d, rfl, ⟨w, s, m, h1, rfl, rfl⟩, h⟩
    rfl
  · rintro f cdv A outer s0 H E rs O Φ hr ⟨ds, d, rfl, ⟨w, s, m, h1, rfl, rfl⟩, h⟩
    have hu := hr.units
    have hmw := h1.mw
    have hw1 := h1.w1
    refine sb_cons (s_set 1 sc_widest.nd (x_ixT (y_call F_lengths (hr.mono (by decide)) (ad_cons (x_var 0) ad_nil) ⟨w, s, m, h1, rfl, rfl⟩) (x_neg x_int) (atI_lastN (lenL_ne h1))) ?_)
    refine sb_cons (s_ret (x_tuple (ds := (wideL w s m).map nD) b_tuple (x_lc (xs := List.range m) [("k", 2)] [2] (fun k => [some (.d (rowD w s m)), some (vI ((lenL w s m).getLastD 0 : Nat)), some (vI (k : Nat))]) (fun k => gapN w s m k == (lenL w s m).getLastD 0) nD sc_widest.nd
      (it_rangeN b_range (x_ixT (x_var 0) x_int rfl) (by omega)) (blkOk_by (N := n_widest) (sc := defScope s_widest) (by decide +kernel)) ?a1
      (fun k hk _ _ _ _ _ => tg_name 2 sc_widest.nd)
      (fun k hk O' hO _ _ _ _ _ => tc (c_eqN (y_call F_gap_after (hr.mono (by decide)) (ad_cons (x_var 0) (ad_cons (x_var 2) ad_nil)) ⟨w, s, m, k, h1, by simpa using hk, rfl, rfl⟩) (x_var 1)))
      (fun k hk hp O' hO _ _ _ _ _ => x_var 2))) h)
    case a1 => simp; omega
-- slots: 0 row, 1 k, 2 some
theorem f_next_point (H_next_point : Has K mg "next_point" s_next_point) (F_order : Fn P w K mg base "order" 2 T_order) : Fn P w K mg base "next_point" 3 T_next_point := by
  refine fn_mk2 H_next_point sc_next_point (fun _ _ _ _ _ _ us hl => match us, hl with | [_, _], _ => rfl) ?_ ?_
  · rintro rs O Φ ⟨ds, d, rfl, ⟨w, s, m, k, h1, hk, rfl, rfl⟩, h⟩
    rfl
  · rintro f cdv A outer s0 H E rs O Φ hr ⟨ds, d, rfl, ⟨w, s, m, k, h1, hk, rfl, rfl⟩, h⟩
    have hl := ordL_len h1.w0 h1.m1
    have hmw := h1.mw
    have hw1 := h1.w1
    have hm := (ordL_mem h1.w0 h1.m1).mpr hk
    have hi := List.idxOf_lt_length_iff.mpr hm
    refine sb_cons (s_set 2 sc_next_point.nd (y_callT F_order (hr.mono (by decide)) (ad_cons (x_var 0) ad_nil) ⟨w, s, m, h1, rfl, rfl⟩) ?_)
    refine sb_cons (s_ret (x_ixT (x_catT (x_vart 2) (x_vart 2) ?a1) (x_addN (m := 1) (x_indexN (x_var 2) (x_var 1) hm) x_int) ?a2) h)
    case a1 => rw [List.length_map, hl]; omega
    case a2 =>
      rw [← List.map_append]
      exact atI_N (by rw [List.length_append]; omega)
-- slots: 0 script, 1 whole, 2 step, 3 many, 4 long, 5 few, 6 new, 7 more, 8 row, 9 k, 10 n, 11 first, 12 second, 13 old, 14 fresh, 15 length, 16 at
theorem f_law {f : Addr} {fd : FuncData} (D_law : FunD K "law" "law" (defArgs s_law) (defBody s_law) (defScope s_law) [] [] f fd) (F__law_mixed : Fn P w K mg base "_law_mixed" 2 T__law_mixed) (F__law_row : Fn P w K mg base "_law_row" 2 T__law_row) (F_turn : Fn P w K mg base "turn" 2 T_turn) (F_stops : Fn P w K mg base "stops" 5 T_stops) (F_new_lengths : Fn P w K mg base "new_lengths" 5 T_new_lengths) (F_cut : Fn P w K mg base "cut" 2 T_cut) (F_widest : Fn P w K mg base "widest" 5 T_widest) (F_next_point : Fn P w K mg base "next_point" 3 T_next_point) (F_lengths : Fn P w K mg base "lengths" 4 T_lengths) (F_gaps : Fn P w K mg base "gaps" 3 T_gaps) (b_range : mg "range" = none) (b_min : mg "min" = none) (b_sorted : mg "sorted" = none) (b_set : mg "set" = none) (b_len : mg "len" = none) : FnOk P w K mg base CX0 6 f fd ["script"] (spOf K T_law) := by
  refine fn_at D_law sc_law ?_ ?_
  · rintro rs O Φ ⟨ns, h1, rfl, h2⟩
    rfl
  · rintro cdv A outer s0 H E rs O Φ hr ⟨ns, hlen, rfl, h⟩
    have hu := hr.units
    have R0 := pr_row (n := mixN ns 0) (most := 120) (by decide) (by decide)
    refine sb_cons (s_asg (y_call F__law_row (hr.mono (by decide)) (ad_cons (g_call F__law_mixed (hr.mono (by decide)) (a_cons (x_var 0) (a_cons x_int a_nil)) ⟨ns, 0, rfl, rfl, rfl⟩) (ad_cons x_int ad_nil)) ⟨mixN ns 0, 120, by decide, by decide, rfl, rfl⟩) (tg_tup rfl (tgs_cons (tg_name 1 sc_law.nd) (tgs_cons (tg_name 2 sc_law.nd) (tgs_cons (tg_name 3 sc_law.nd) tgs_nil)))) ?_)
    generalize prW (mixN ns 0) 120 = w, prS (mixN ns 0) 120 = s, prM (mixN ns 0) 120 = m0 at R0 ⊢
    have h0 := R0.s0
    have h1 := R0.sw
    have h2 := R0.w1
    have hw0 := R0.w0
    have hm0 := R0.m0
    have hm1 := R0.m1
    have htl := tn_le w s
    have htp := tn_two h0 h1
    obtain ⟨r1, er1⟩ := stopL_head (s := s) hw0 (tn w s) (by omega)
    obtain ⟨r2, er2⟩ := newL_head (s := s) hw0 (tn w s) (by omega)
    have hne : stopL w s (tn w s) ≠ [] := by rw [er1]; simp
    have hla := stopL_last h0 h1
    have hnl := newL_len (s := s) hw0 h2 (tn w s) (Nat.le_refl _)
    refine sb_cons (s_set 4 sc_law.nd (y_call F_turn (hr.mono (by decide)) (ad_cons (x_var 1) (ad_cons (x_var 2) ad_nil)) ⟨w, s, hw0, Nat.lt_of_le_of_lt h2 Nat.lt_two_pow_self, rfl, rfl⟩) ?_)
    refine sb_cons (s_set 5 sc_law.nd (y_call F_stops (hr.mono (by decide)) (ad_cons (x_var 1) (ad_cons (x_var 2) ad_nil)) ⟨w, s, h0, h1, h2, rfl, rfl⟩) ?_)
    refine sb_cons (s_set 6 sc_law.nd (y_call F_new_lengths (hr.mono (by decide)) (ad_cons (x_var 1) (ad_cons (x_var 2) ad_nil)) ⟨w, s, h0, h1, h2, rfl, rfl⟩) ?_)
    refine sb_skip (t_w (w_or (k := false) (k' := false) (tc (CX1.cast (k' := false) (c_neN (n := 1) (m := 1) (x_ixT (x_var 5) x_int ?a0) x_int) rfl)) (fun _ => w_or (k := false) (k' := false) (tc (CX1.cast (k' := false) (c_neN (x_ixT (x_var 5) (x_neg x_int) (atI_lastN hne)) (x_var 4)) ?a1)) (fun _ => w_or1 (tc (c_neF (d := npD (1, w)) (x_ixT (x_var 6) x_int ?a2) (y_tup (ad_cons x_int (ad_cons (x_var 1) ad_nil))) (sh_npD _))))))) ?_
    case a0 => rw [er1]; exact atI_nat (j := 0) rfl
    case a1 => rw [hla]; simp
    case a2 => rw [er2]; exact atI_nat (j := 0) rfl
    refine sb_for (it_range2N (lo := m0) (n := min (tn w s) (m0 + 12)) b_range (x_var 3) (x_minN2 b_min (x_var 4) (x_addN (m := 12) (x_var 3) x_int)) (by omega)) (fun i (_ : Unit) => [some (.s ns), some (vI w), some (vI s), none, some (vI (tn w s : Nat)), some (vT ((stopL w s (tn w s)).map nD)), some (vT ((newL w s (tn w s)).map npD)), none, none, none, none, none, none, none, none, none, none]) (fun i _ => O) (fun _ _ => True) () trivial (by repeat constructor) rfl ?b1 ?b2
    case b2 =>
      rintro _ _
      exact sb_cons (s_ret x_bl h)
    case b1 =>
      rintro i _ hi _
      have hi' : i < min (tn w s) (m0 + 12) - m0 := by simpa using hi
      have e : (List.range (min (tn w s) (m0 + 12) - m0))[i] = i := List.getElem_range _
      rw [e]
      have hm : m0 + i < tn w s := by omega
      have hmp : 0 < m0 + i := by omega
      generalize m0 + i = m at hm hmp
      have R : Row w s m := ⟨h2, h0, h1, hmp, by omega⟩
      have R2 : Row w s (m + 1) := ⟨h2, h0, h1, by omega, hm⟩
      have C := cut_ok hw0 hmp hm
      have hG := cut_greatest hw0 hmp hm
      obtain ⟨ho1, ho2⟩ := old_eq hw0 hmp hm
      have hfe := fresh_eq hw0 hmp hm
      have hft := fresh_three hw0 hmp hm
      obtain ⟨hR, _, _⟩ := rl_ok (m := m + 1) hw0 hm (by omega)
      have hpA := hR.pos hR.a0 hR.am
      have hpB := hR.lt (lft w s (m + 1)).1
      have hB0 : 0 < w - pl w s (lft w s (m + 1)).1 := by omega
      have ec : cutT w s m = .tuple [nD (ahd w s m).2, nD (bhd w s m).2, nD (pl w s (rgt w s (m + 1)).1), nD (w - pl w s (lft w s (m + 1)).1)] := by
        unfold cutT
        rw [C.back, C.on]
      have hkn := C.next
      have hkl := C.lt
      have hkg := C.gap
      have hgl := gapL_len hw0 R.m1
      have hf3 := lenL_few hw0 R.m1 R.m0 R.w1
      generalize pl w s (rgt w s (m + 1)).1 = A, w - pl w s (lft w s (m + 1)).1 = B at *
      generalize (ahd w s m).2 = k, (bhd w s m).2 = n at *
      have hkw : k ∈ wideL w s m := by
        unfold wideL
        rw [hG]
        exact List.mem_filter.mpr ⟨List.mem_range.mpr hkl, by rw [hkg]; simp⟩
      refine ⟨_, _, tg_name 7 sc_law.nd, ?_⟩
      refine sb_cons (s_set 8 sc_law.nd (r := .d (rowD w s m)) (y_tup (ad_cons (x_var 1) (ad_cons (x_var 2) (ad_cons (x_var 7) ad_nil)))) ?_)
      refine sb_cons (s_asg (EX.cast (y_call F_cut (hr.mono (by decide)) (ad_cons (x_var 8) ad_nil) ⟨w, s, m, R, hm, rfl, rfl⟩) (by rw [ec])) (tg_tup rfl (tgs_cons (tg_name 9 sc_law.nd) (tgs_cons (tg_name 10 sc_law.nd) (tgs_cons (tg_name 11 sc_law.nd) (tgs_cons (tg_name 12 sc_law.nd) tgs_nil))))) ?_)
      refine sb_skip (t_w (w_or (k := false) (k' := false) (tc (CX1.cast (k' := false) (c_niTN (x_var 9) (y_call F_widest (hr.mono (by decide)) (ad_cons (x_var 8) ad_nil) ⟨w, s, m, R, rfl, rfl⟩)) ?c0)) (fun _ => w_or (k := false) (k' := false) (tc (c_neF (d := nD n) (EX.cast (y_call F_next_point (hr.mono (by decide)) (ad_cons (x_var 8) (ad_cons (x_var 9) ad_nil)) ⟨w, s, m, k, R, hkl, rfl, rfl⟩) (by rw [hkn])) (x_var 10) (sh_int _ _))) (fun _ => w_or1 (tc (CX1.cast (k' := false) (c_neN (x_addN (x_var 11) (x_var 12)) (x_ixT (y_call F_lengths (hr.mono (by decide)) (ad_cons (x_var 8) ad_nil) ⟨w, s, m, R, rfl, rfl⟩) (x_neg x_int) (atI_lastN (lenL_ne R)))) ?c1)))))) ?_
      case c0 => simp [hkw]
      case c1 => rw [hG]; simp
      refine sb_cons (s_setG 13 sc_law.nd (g_sortedTI (ns := iL (gapL w s m ++ [A, B])) b_sorted (EX.cast (x_catT (EX.td (y_callT F_gaps (hr.mono (by decide)) (ad_cons (x_var 8) ad_nil) ⟨w, s, m, R, rfl, rfl⟩)) (y_tup (ad_cons (x_var 11) (ad_cons (x_var 12) ad_nil))) ?d0) ?d1) (srtZ_perm _) (srtZ_sorted _)) ?_)
      case d0 =>
        rw [List.length_map, hgl]
        show m + 2 ≤ _
        omega
      case d1 => rw [← nD_iL, List.map_append]; rfl
      rintro r O1 ⟨q, rfl, rfl, hq⟩
      refine sb_cons (s_remove (x_var 13) (x_addN (x_var 11) (x_var 12)) List.mem_cons_self ho2 ?_)
      rw [setO_head hq, ho1]
      refine sb_let 13 rfl hq ?_
      refine sb_skip (tc (c_neF (d := .list ((srtZ (iL (gapL w s (m + 1)))).map .int)) (x_sortedTI b_sorted (EX.cast (EX.td (y_callT F_gaps (hr.mono (by decide)) (ad_cons (y_tup (ad_cons (x_var 1) (ad_cons (x_var 2) (ad_cons (x_addN (m := 1) (x_var 7) x_int) ad_nil)))) ad_nil) ⟨w, s, m + 1, R2, rfl, rfl⟩)) (by rw [nD_iL])) (srtZ_perm _) (srtZ_sorted _)) (x_var 13) ?d2)) ?_
      case d2 =>
        refine sh_lst (n := 7) fun x hx => ?_
        obtain ⟨p, _, rfl⟩ := List.mem_map.mp hx
        exact sh_int _ _
      obtain ⟨l1, l2⟩ := len3_ok (A := A) (B := B) (t := false) hpA hB0
      have l3 : (len3 A B false).length ≤ 2 := by
        unfold len3
        simp only [Bool.false_eq_true, if_false, List.append_nil]
        split
        · simp
        · split <;> simp
      refine sb_cons (s_lc (xs := len3 A B false) 14 [("length", 15)] [15] (fun g => [some (.s ns), some (vI w), some (vI s), none, some (vI (tn w s : Nat)), some (vT ((stopL w s (tn w s)).map nD)), some (vT ((newL w s (tn w s)).map npD)), some (vI m), some (.d (rowD w s m)), some (vI (k : Nat)), some (vI (n : Nat)), some (vI (A : Nat)), some (vI (B : Nat)), some (vL ((srtZ (iL (gapL w s (m + 1)))).map .int)), none, some (vI (g : Nat)), none]) (fun g => !decide (g ∈ lenL w s m)) (fun g => nD g) sc_law.nd
        (IT.as (k := fun g => vI (g : Nat)) (it_list (x_sortedSetL (ns := iL [A, B]) (D := iL (len3 A B false)) b_sorted b_set (y_lst (ad_cons (x_var 11) (ad_cons (x_var 12) ad_nil))) (show 2 ≤ 4000 by decide) ?e0 ?e1 ?e2)) ?e3) (blkOk_by (N := n_law) (sc := defScope s_law) (by decide +kernel)) ?e4 (sw_true rfl rfl rfl (by decide +kernel))
        (fun g hg _ _ _ _ _ => tg_name 15 sc_law.nd)
        (fun g hg O' hO _ _ _ _ _ => tc (c_niTN (x_var 15) (y_call F_lengths (hr.mono (by decide)) (ad_cons (x_var 8) ad_nil) ⟨w, s, m, R, rfl, rfl⟩)))
        (fun g hg hp O' hO _ _ _ _ _ => x_var 15) ?_)
      case e0 =>
        intro z
        rw [iL_mem, iL_mem]
        constructor
        · rintro ⟨x, hx, rfl⟩
          refine ⟨x, ?_, rfl⟩
          rcases (l2 x).mp hx with y | y | ⟨y, _⟩
          · simp [y]
          · simp [y]
          · cases y
        · rintro ⟨x, hx, rfl⟩
          refine ⟨x, (l2 x).mpr ?_, rfl⟩
          have : x = A ∨ x = B := by simpa using hx
          rcases this with y | y
          · exact .inl y
          · exact .inr (.inl y)
      case e1 =>
        refine List.pairwise_map.mpr (l1.imp ?_)
        intro x y hxy
        omega
      case e2 => rw [List.length_map]; omega
      case e3 => rw [List.map_map, List.map_map]; rfl
      case e4 => omega
      generalize hfr : ((len3 A B false).filter fun g => !decide (g ∈ lenL w s m)) = fr at hfe hft ⊢
      refine sb_skip (t_w (w_or (k := false) (k' := false) (tc (c_neF (d := .list (fr.map nD)) (EX.cast (x_lc (xs := newL w s (tn w s)) [("at", 16), ("length", 15)] [16, 15] (fun p => [some (.s ns), some (vI w), some (vI s), none, some (vI (tn w s : Nat)), some (vT ((stopL w s (tn w s)).map nD)), some (vT ((newL w s (tn w s)).map npD)), some (vI m), some (.d (rowD w s m)), some (vI (k : Nat)), some (vI (n : Nat)), some (vI (A : Nat)), some (vI (B : Nat)), some (vL ((srtZ (iL (gapL w s (m + 1)))).map .int)), some (vL (fr.map nD)), some (vI (p.2 : Nat)), some (vI (p.1 : Nat))]) (fun p => decide (p.1 = 1 + m)) (fun p => nD p.2) sc_law.nd
        (IT.as (k := fun p => .d (npD p)) (it_tup (x_var 6)) ?f0) (blkOk_by (N := n_law) (sc := defScope s_law) (by decide +kernel)) ?f1
        (fun p hp _ _ _ _ _ => tg_tup rfl (tgs_cons (tg_name 16 sc_law.nd) (tgs_cons (tg_name 15 sc_law.nd) tgs_nil)))
        (fun p hp O' hO _ _ _ _ _ => tc (CX1.cast (c_eqN (x_var 16) (x_addN (m := 1) (x_var 7) x_int)) (by rw [nbeq, Nat.add_comm m 1])))
        (fun p hp _ O' hO _ _ _ _ _ => x_var 15)) ?f2) (x_var 14) (sh_natl _))) (fun _ => w_or1 (ET.cast (t_w (w_and (tc (c_gtN (m := 0) (x_lenL b_len (x_var 14)) x_int)) (fun _ => w_and1 (tc (c_eqN (m := 3) (x_lenT b_len (y_call F_lengths (hr.mono (by decide)) (ad_cons (x_var 8) ad_nil) ⟨w, s, m, R, rfl, rfl⟩)) x_int))))) ?f3)))) ?_
      case f0 => rw [List.map_map]; rfl
      case f1 => omega
      case f2 =>
        have e1 := newL_at (w := w) (s := s) hm
        rw [hfe] at e1
        rw [← e1, List.map_map]
        rfl
      case f3 =>
        rw [List.length_map, List.length_map]
        by_cases h3 : (lenL w s m).length = 3
        · rw [hft h3]; rfl
        · simp [h3]
      refine sb_skip (tc (c_neF (d := .bool (decide ((lenL w s m).length < 3))) (xc (CX1.cast (c_inTN (x_var 7) (x_var 5)) ?g1)) (xc (CX1.cast (c_ltN (m := 3) (x_lenT b_len (y_call F_lengths (hr.mono (by decide)) (ad_cons (x_var 8) ad_nil) ⟨w, s, m, R, rfl, rfl⟩)) x_int) ?g2)) (sh_bool _ _))) (sb_nil ⟨(), trivial, by repeat constructor, rfl⟩)
      case g1 =>
        refine decide_eq_decide.mpr ?_
        rw [stopL_mem]
        constructor
        · rintro ⟨_, _, z⟩; exact z
        · exact fun z => ⟨hmp, by omega, z⟩
      case g2 => rw [List.length_map]
end
def d__law_cell_at : He.DefD := ⟨("_law_cell_at", none), "_law_cell_at", "_law_cell_at", defArgs s__law_cell_at, defBody s__law_cell_at, defScope s__law_cell_at, [], []⟩
def d__law_mixed : He.DefD := ⟨("_law_mixed", none), "_law_mixed", "_law_mixed", defArgs s__law_mixed, defBody s__law_mixed, defScope s__law_mixed, [], []⟩
def d__law_pair : He.DefD := ⟨("_law_pair", none), "_law_pair", "_law_pair", defArgs s__law_pair, defBody s__law_pair, defScope s__law_pair, [], []⟩
def d__law_turn : He.DefD := ⟨("_law_turn", none), "_law_turn", "_law_turn", defArgs s__law_turn, defBody s__law_turn, defScope s__law_turn, [], []⟩
def d__law_row : He.DefD := ⟨("_law_row", none), "_law_row", "_law_row", defArgs s__law_row, defBody s__law_row, defScope s__law_row, [], []⟩
def d_common : He.DefD := ⟨("common", none), "common", "common", defArgs s_common, defBody s_common, defScope s_common, [], []⟩
def d_turn : He.DefD := ⟨("turn", none), "turn", "turn", defArgs s_turn, defBody s_turn, defScope s_turn, [], []⟩
def d_place : He.DefD := ⟨("place", none), "place", "place", defArgs s_place, defBody s_place, defScope s_place, [], []⟩
def d_order : He.DefD := ⟨("order", none), "order", "order", defArgs s_order, defBody s_order, defScope s_order, [], []⟩
def d_gap_after : He.DefD := ⟨("gap_after", none), "gap_after", "gap_after", defArgs s_gap_after, defBody s_gap_after, defScope s_gap_after, [], []⟩
def d_gaps : He.DefD := ⟨("gaps", none), "gaps", "gaps", defArgs s_gaps, defBody s_gaps, defScope s_gaps, [], []⟩
def d_lengths : He.DefD := ⟨("lengths", none), "lengths", "lengths", defArgs s_lengths, defBody s_lengths, defScope s_lengths, [], []⟩
def d_stops : He.DefD := ⟨("stops", none), "stops", "stops", defArgs s_stops, defBody s_stops, defScope s_stops, [], []⟩
def d_new_lengths : He.DefD := ⟨("new_lengths", none), "new_lengths", "new_lengths", defArgs s_new_lengths, defBody s_new_lengths, defScope s_new_lengths, [], []⟩
def d_cut : He.DefD := ⟨("cut", none), "cut", "cut", defArgs s_cut, defBody s_cut, defScope s_cut, [], []⟩
def d_widest : He.DefD := ⟨("widest", none), "widest", "widest", defArgs s_widest, defBody s_widest, defScope s_widest, [], []⟩
def d_next_point : He.DefD := ⟨("next_point", none), "next_point", "next_point", defArgs s_next_point, defBody s_next_point, defScope s_next_point, [], []⟩
def d_law : He.DefD := ⟨("law", none), "law", "law", defArgs s_law, defBody s_law, defScope s_law, [], []⟩
def fn : List He.DefD := [d__law_cell_at, d__law_mixed, d__law_pair, d__law_turn, d__law_row, d_common, d_turn, d_place, d_order, d_gap_after, d_gaps, d_lengths, d_stops, d_new_lengths, d_cut, d_widest, d_next_point, d_law]
def fa : List He.Fa := [.glo "_law_cell_at", .glo "_law_mixed", .glo "_law_pair", .glo "_law_turn", .glo "_law_row", .glo "common", .glo "turn", .glo "place", .glo "order", .glo "gap_after", .glo "gaps", .glo "lengths", .glo "stops", .glo "new_lengths", .glo "cut", .glo "widest", .glo "next_point", .glo "law", .free "len", .free "range", .free "sorted", .free "tuple", .free "min", .free "set"]
abbrev R : PySem.W.OpenRow := PySem.W.OpenLaw.row PySem.Challenge.rw_ringgaps_k31_whole_a_greatest_is_cut
abbrev hk : PySem.W.Hook := He.hookD 4 fa fn
def ob (s : PySem.W.SharedT) : He.AlD := He.obsDG 4 fa fn (HandSHeadRun.getT s)
theorem ob_eq (s : PySem.W.SharedT) : ob s = hk.obs s.abs := He.obsDG_eq (HandSHeadRun.getT_eq s)
theorem run (w : World) : HandSHeadRun.RunEq R (PySem.W.view R.prog [22]) hk ob 4000 ["common", "turn", "place", "order", "gap_after", "gaps", "lengths", "widest", "next_point", "cut", "stops", "new_lengths", "_law_cell_at", "_law_mixed", "_law_drawn", "_law_turn", "_law_pair", "_law_row"] w := by
  intro os
  kernel_rfl
theorem facts {P : Program} {w : World} {K : PySem.W.Frag} {h : Heap} {mg : Str → Option Value} {f : Addr} (X : K.In h) (G : h.Ns mainGlobals mg) (hfa : mg ("law" : Str) = some (.ref f)) (c : He.SaysD fa fn K) :
    ∃ fd : FuncData, (∀ (s : Shared) (v : Value), BindsTo s fd ⟨[v], []⟩ [("script", v)]) ∧ ∀ base : Heap, K.In base → base.Ns mainGlobals mg → FnOk P w K mg base CX0 6 f fd ["script"] (spOf K T_law) := by
  obtain ⟨fd__law_cell_at, D__law_cell_at⟩ := c.def_ 0 (d := d__law_cell_at) rfl
  have G__law_cell_at := He.glo_ok X G (c.fact 0 (f := .glo "_law_cell_at") rfl)
  obtain ⟨fd__law_mixed, D__law_mixed⟩ := c.def_ 1 (d := d__law_mixed) rfl
  have G__law_mixed := He.glo_ok X G (c.fact 1 (f := .glo "_law_mixed") rfl)
  obtain ⟨fd__law_pair, D__law_pair⟩ := c.def_ 2 (d := d__law_pair) rfl
  have G__law_pair := He.glo_ok X G (c.fact 2 (f := .glo "_law_pair") rfl)
  obtain ⟨fd__law_turn, D__law_turn⟩ := c.def_ 3 (d := d__law_turn) rfl
  have G__law_turn := He.glo_ok X G (c.fact 3 (f := .glo "_law_turn") rfl)
  obtain ⟨fd__law_row, D__law_row⟩ := c.def_ 4 (d := d__law_row) rfl
  have G__law_row := He.glo_ok X G (c.fact 4 (f := .glo "_law_row") rfl)
  obtain ⟨fd_common, D_common⟩ := c.def_ 5 (d := d_common) rfl
  have G_common := He.glo_ok X G (c.fact 5 (f := .glo "common") rfl)
  obtain ⟨fd_turn, D_turn⟩ := c.def_ 6 (d := d_turn) rfl
  have G_turn := He.glo_ok X G (c.fact 6 (f := .glo "turn") rfl)
  obtain ⟨fd_place, D_place⟩ := c.def_ 7 (d := d_place) rfl
  have G_place := He.glo_ok X G (c.fact 7 (f := .glo "place") rfl)
  obtain ⟨fd_order, D_order⟩ := c.def_ 8 (d := d_order) rfl
  have G_order := He.glo_ok X G (c.fact 8 (f := .glo "order") rfl)
  obtain ⟨fd_gap_after, D_gap_after⟩ := c.def_ 9 (d := d_gap_after) rfl
  have G_gap_after := He.glo_ok X G (c.fact 9 (f := .glo "gap_after") rfl)
  obtain ⟨fd_gaps, D_gaps⟩ := c.def_ 10 (d := d_gaps) rfl
  have G_gaps := He.glo_ok X G (c.fact 10 (f := .glo "gaps") rfl)
  obtain ⟨fd_lengths, D_lengths⟩ := c.def_ 11 (d := d_lengths) rfl
  have G_lengths := He.glo_ok X G (c.fact 11 (f := .glo "lengths") rfl)
  obtain ⟨fd_stops, D_stops⟩ := c.def_ 12 (d := d_stops) rfl
  have G_stops := He.glo_ok X G (c.fact 12 (f := .glo "stops") rfl)
  obtain ⟨fd_new_lengths, D_new_lengths⟩ := c.def_ 13 (d := d_new_lengths) rfl
  have G_new_lengths := He.glo_ok X G (c.fact 13 (f := .glo "new_lengths") rfl)
  obtain ⟨fd_cut, D_cut⟩ := c.def_ 14 (d := d_cut) rfl
  have G_cut := He.glo_ok X G (c.fact 14 (f := .glo "cut") rfl)
  obtain ⟨fd_widest, D_widest⟩ := c.def_ 15 (d := d_widest) rfl
  have G_widest := He.glo_ok X G (c.fact 15 (f := .glo "widest") rfl)
  obtain ⟨fd_next_point, D_next_point⟩ := c.def_ 16 (d := d_next_point) rfl
  have G_next_point := He.glo_ok X G (c.fact 16 (f := .glo "next_point") rfl)
  obtain ⟨fd_law, D_law⟩ := c.def_ 17 (d := d_law) rfl
  have G_law := He.glo_ok X G (c.fact 17 (f := .glo "law") rfl)
  have b_len := He.free_ok X G (c.fact 18 (f := .free "len") rfl)
  have b_range := He.free_ok X G (c.fact 19 (f := .free "range") rfl)
  have b_sorted := He.free_ok X G (c.fact 20 (f := .free "sorted") rfl)
  have b_tuple := He.free_ok X G (c.fact 21 (f := .free "tuple") rfl)
  have b_min := He.free_ok X G (c.fact 22 (f := .free "min") rfl)
  have b_set := He.free_ok X G (c.fact 23 (f := .free "set") rfl)
  have e := hfa.symm.trans G_law
  cases e
  have b := FunD.bindsA (ps := ["script"]) D_law fun _ _ _ _ _ _ us hl => match us, hl with | [_], _ => rfl
  refine ⟨fd_law, fun s v => b s [v] rfl, fun base _ _ => ?_⟩
  have F__law_cell_at := f__law_cell_at (P := P) (w := w) (base := base) ⟨_, _, D__law_cell_at, G__law_cell_at⟩ b_len
  have F__law_mixed := f__law_mixed (P := P) (w := w) (base := base) ⟨_, _, D__law_mixed, G__law_mixed⟩ F__law_cell_at
  have F__law_pair := f__law_pair (P := P) (w := w) (base := base) ⟨_, _, D__law_pair, G__law_pair⟩
  have F__law_turn := f__law_turn (P := P) (w := w) (base := base) ⟨_, _, D__law_turn, G__law_turn⟩ b_range
  have F__law_row := f__law_row (P := P) (w := w) (base := base) ⟨_, _, D__law_row, G__law_row⟩ F__law_pair F__law_turn
  have F_common := f_common (P := P) (w := w) (base := base) ⟨_, _, D_common, G_common⟩
  have F_turn := f_turn (P := P) (w := w) (base := base) ⟨_, _, D_turn, G_turn⟩ F_common
  have F_place := f_place (P := P) (w := w) (base := base) ⟨_, _, D_place, G_place⟩
  have F_order := f_order (P := P) (w := w) (base := base) ⟨_, _, D_order, G_order⟩ F_place b_range b_sorted b_tuple
  have F_gap_after := f_gap_after (P := P) (w := w) (base := base) ⟨_, _, D_gap_after, G_gap_after⟩ F_place b_range b_min
  have F_gaps := f_gaps (P := P) (w := w) (base := base) ⟨_, _, D_gaps, G_gaps⟩ F_order F_gap_after b_tuple
  have F_lengths := f_lengths (P := P) (w := w) (base := base) ⟨_, _, D_lengths, G_lengths⟩ F_gaps b_tuple b_sorted b_set
  have F_stops := f_stops (P := P) (w := w) (base := base) ⟨_, _, D_stops, G_stops⟩ F_turn F_lengths b_tuple b_range b_len
  have F_new_lengths := f_new_lengths (P := P) (w := w) (base := base) ⟨_, _, D_new_lengths, G_new_lengths⟩ F_turn F_lengths b_tuple b_range
  have F_cut := f_cut (P := P) (w := w) (base := base) ⟨_, _, D_cut, G_cut⟩ F_place b_min b_range
  have F_widest := f_widest (P := P) (w := w) (base := base) ⟨_, _, D_widest, G_widest⟩ F_lengths F_gap_after b_tuple b_range
  have F_next_point := f_next_point (P := P) (w := w) (base := base) ⟨_, _, D_next_point, G_next_point⟩ F_order
  exact f_law (P := P) (w := w) (base := base) D_law F__law_mixed F__law_row F_turn F_stops F_new_lengths F_cut F_widest F_next_point F_lengths F_gaps b_range b_min b_sorted b_set b_len
end Py.R
open PySem PySem.W PySem.Calls PyProof.Rows
set_option maxHeartbeats 0 in
theorem PySem.Challenge.cw_ringgaps_k31_whole_a_greatest_is_cut_holds : PySem.Challenge.rw_ringgaps_k31_whole_a_greatest_is_cut.Holds := by
  w_on; o_law
  refine HandSHeadRun.head_any (r := OpenLaw.row PySem.Challenge.rw_ringgaps_k31_whole_a_greatest_is_cut) (q := view (OpenLaw.row PySem.Challenge.rw_ringgaps_k31_whole_a_greatest_is_cut).prog [22]) (H := Py.R.hk) (ob := Py.R.ob) (M := 4000) (loose := ["common", "turn", "place", "order", "gap_after", "gaps", "lengths", "widest", "next_point", "cut", "stops", "new_lengths", "_law_cell_at", "_law_mixed", "_law_drawn", "_law_turn", "_law_pair", "_law_row"]) (d := HandSHeadRun.topDef (OpenLaw.row PySem.Challenge.rw_ringgaps_k31_whole_a_greatest_is_cut).prog 22) (kwd := []) Py.R.ob_eq
    (by kernel_rfl) (fun s => by kernel_rfl) Py.R.run (by kernel_rfl) (by kernel_rfl) (by kernel_rfl) (by rfl) (by first | assumption | decide +kernel) (by decide +kernel) ⟨rfl, rfl, rfl, rfl, rfl, by decide +kernel⟩ ?hw ?hc
  case hw => w_witness2
  case hc =>
    refine L2.walk_ofE (l := PySem.Challenge.rw_ringgaps_k31_whole_a_greatest_is_cut) (n := 63) (k := 6) (x := "script") (CX := L2.CX0) rfl (by decide) (by kernel_rfl) ⟨rfl, by decide, by decide⟩ ?F (fun _ _ _ _ z => z)
    intro w mg fa h Y G hmg0
    obtain ⟨K, KX, c⟩ := Y
    have hmg : mg ("law" : PySem.Str) = some (.ref fa) := by
      have e : (HandSHeadRun.topDef (OpenLaw.row PySem.Challenge.rw_ringgaps_k31_whole_a_greatest_is_cut).prog 22).name = ("law" : PySem.Str) := by kernel_rfl
      rw [← e]
      exact hmg0
    obtain ⟨fd, hb, hF⟩ := Py.R.facts (P := (PySem.Challenge.rw_ringgaps_k31_whole_a_greatest_is_cut).prog) (w := w) KX G hmg c
    exact ⟨K, fd, Py.spOf K Py.T_law, KX, hb, fun H a ns hl _ hS => Py.sp_law hl hS, hF⟩
