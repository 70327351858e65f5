import PyProof.Rows.All
import Wide.All
import OpenK.AllK
import Wide.FinOn
import HandS.Base
import HandS.Call
import HandS.List
import HandS.Comp
import HandS.Ends
import HandS.Dict
import HandS.Iter
import HandS.Text
import HandS.Words
import HandS.WordsList
import HandS.WordsDict
import HandS.Defaults
import HandS.Head0
import HandS.Head1
import HandS.Head2
import HandS.HeadEnd
import HandS.HeadHook1
import HandS.HeadHook2
import HandS.SortRule
import HandS.SortInts
import PySem.Challenge.RW_ringgaps_k10_points
set_option Elab.async false
set_option linter.all false
set_option maxRecDepth 100000
namespace Py
open PySem PySem.Spec PyProof.Rows L2

/-! ### data in a heap -/
def Sub (H H' : Hp) : Prop := ∀ a o, H a = some o → H' a = some o
theorem Sub.refl (H : Hp) : Sub H H := fun _ _ h => h
theorem Sub.trans {H H1 H2 : Hp} (a : Sub H H1) (b : Sub H1 H2) : Sub H H2 := fun x o h => b x o (a x o h)
theorem sub_L {K : PySem.W.Frag} {H H' : Hp} {a : Addr} {xs : List V} (e : Sub H H') (h : SqL K H a xs) : SqL K H' a xs := by
  rcases h with (h | ⟨o, h⟩) | h
  · exact .inl (.inl (e _ _ h))
  · exact .inl (.inr ⟨o, e _ _ h⟩)
  · exact .inr h
theorem sub_T {K : PySem.W.Frag} {H H' : Hp} {a : Addr} {xs : List V} (e : Sub H H') (h : SqT K H a xs) : SqT K H' a xs := by
  rcases h with (h | ⟨o, h⟩) | h
  · exact .inl (.inl (e _ _ h))
  · exact .inl (.inr ⟨o, e _ _ h⟩)
  · exact .inr h
mutual
inductive Dq (H : Hp) : V → PyData → Prop
  | non : Dq H .non .none
  | bl (b : Bool) : Dq H (.bl b) (.bool b)
  | int (i : Int) : Dq H (.int i) (.int i)
  | str (x : Str) : Dq H (.str x) (.str x)
  | lst {a : Addr} {xs : List V} {ds : List PyData} : H a = some (.lst xs) → DqAll H xs ds → Dq H (.ref a) (.list ds)
  | tup {a : Addr} {xs : List V} {ds : List PyData} : H a = some (.tup xs) → DqAll H xs ds → Dq H (.ref a) (.tuple ds)
inductive DqAll (H : Hp) : List V → List PyData → Prop
  | nil : DqAll H [] []
  | cons {v : V} {vs : List V} {d : PyData} {ds : List PyData} : Dq H v d → DqAll H vs ds → DqAll H (v :: vs) (d :: ds)
end
section
variable {K : PySem.W.Frag} {H : Hp}
mutual
theorem dq_dp : ∀ (d : PyData) (v : V), Dq H v d → Dp K H v d
  | .none, _, h => by cases h; exact .non
  | .bool b, _, h => by cases h; exact .bl b
  | .int i, _, h => by cases h; exact .int i
  | .str x, _, h => by cases h; exact .str x
  | .list ds, _, h => by
    cases h with
    | lst hs ha => exact .lst (SqL.of hs) (dqAll_dp ds _ ha)
  | .tuple ds, _, h => by
    cases h with
    | tup hs ha => exact .tup (SqT.of hs) (dqAll_dp ds _ ha)
  | .dict _, _, h => by cases h
theorem dqAll_dp : ∀ (ds : List PyData) (vs : List V), DqAll H vs ds → DpAll K H vs ds
  | [], _, h => by cases h; exact .nil
  | d :: ds, _, h => by
    cases h with
    | cons h1 h2 => exact .cons (dq_dp d _ h1) (dqAll_dp ds _ h2)
end
end
section
variable {K : PySem.W.Frag} {H H' : Hp}
mutual
theorem dp_sub (e : Sub H H') : ∀ (d : PyData) (v : V), Dq H v d → Dq H' v d
  | .none, _, h => by cases h; exact .non
  | .bool b, _, h => by cases h; exact .bl b
  | .int i, _, h => by cases h; exact .int i
  | .str x, _, h => by cases h; exact .str x
  | .list ds, _, h => by
    cases h with
    | lst hs ha => exact .lst (e _ _ hs) (dpAll_sub e ds _ ha)
  | .tuple ds, _, h => by
    cases h with
    | tup hs ha => exact .tup (e _ _ hs) (dpAll_sub e ds _ ha)
  | .dict _, _, h => by cases h
theorem dpAll_sub (e : Sub H H') : ∀ (ds : List PyData) (vs : List V), DqAll H vs ds → DqAll H' vs ds
  | [], _, h => by cases h; exact .nil
  | d :: ds, _, h => by
    cases h with
    | cons h1 h2 => exact .cons (dp_sub e d _ h1) (dpAll_sub e ds _ h2)
end
theorem dpa_len : ∀ {vs : List V} {ds : List PyData}, DqAll H vs ds → vs.length = ds.length
  | _, _, .nil => rfl
  | _, _, .cons _ t => by rw [List.length_cons, List.length_cons, dpa_len t]
theorem dpa_at_ : ∀ {vs : List V} {ds : List PyData} {i : Nat} {d : PyData}, DqAll H vs ds → ds[i]? = some d → ∃ v, vs[i]? = some v ∧ Dq H v d
  | _, _, i, d, .nil, e => by simp at e
  | _, _, 0, d, .cons h t, e => by
    simp at e
    subst e
    exact ⟨_, rfl, h⟩
  | _, _, i + 1, d, .cons h t, e => by
    obtain ⟨v, a, b⟩ := dpa_at_ (i := i) t (by simpa using e)
    exact ⟨v, by simpa using a, b⟩
theorem dpa_atV : ∀ {vs : List V} {ds : List PyData} {i : Nat} {v : V}, DqAll H vs ds → vs[i]? = some v → ∃ d, ds[i]? = some d ∧ Dq H v d
  | _, _, i, d, .nil, e => by simp at e
  | _, _, 0, d, .cons h t, e => by
    simp at e
    subst e
    exact ⟨_, rfl, h⟩
  | _, _, i + 1, d, .cons h t, e => by
    obtain ⟨v, a, b⟩ := dpa_atV (i := i) t (by simpa using e)
    exact ⟨v, by simpa using a, b⟩
theorem dpa_app : ∀ {vs us : List V} {ds es : List PyData}, DqAll H vs ds → DqAll H us es → DqAll H (vs ++ us) (ds ++ es)
  | _, _, _, _, .nil, s => s
  | _, _, _, _, .cons h t, s => .cons h (dpa_app t s)
theorem dpa_take : ∀ {vs : List V} {ds : List PyData} (n : Nat), DqAll H vs ds → DqAll H (vs.take n) (ds.take n)
  | _, _, 0, _ => .nil
  | _, _, _ + 1, .nil => .nil
  | _, _, n + 1, .cons h t => .cons h (dpa_take n t)
theorem dpa_drop : ∀ {vs : List V} {ds : List PyData} (n : Nat), DqAll H vs ds → DqAll H (vs.drop n) (ds.drop n)
  | _, _, 0, r => r
  | _, _, _ + 1, .nil => .nil
  | _, _, n + 1, .cons _ t => dpa_drop n t
theorem dpa_rev : ∀ {vs : List V} {ds : List PyData}, DqAll H vs ds → DqAll H vs.reverse ds.reverse
  | _, _, .nil => .nil
  | _, _, .cons h t => by
    rw [List.reverse_cons, List.reverse_cons]
    exact dpa_app (dpa_rev t) (.cons h .nil)
theorem dpa_ints : ∀ {ns : List Int}, DqAll H (ns.map V.int) (ns.map PyData.int)
  | [] => .nil
  | _ :: _ => .cons (.int _) dpa_ints
theorem dpa_ofInts : ∀ {ns : List Int} {vs : List V}, DqAll H vs (ns.map PyData.int) → vs = ns.map V.int
  | [], vs, h => by cases h; rfl
  | n :: ns, vs, h => by
    cases h with
    | cons h1 h2 =>
      cases h1
      rw [dpa_ofInts h2]
      rfl
theorem dpa_append1 {vs : List V} {ds : List PyData} {v : V} {d : PyData} (h : DqAll H vs ds) (q : Dq H v d) : DqAll H (vs ++ [v]) (ds ++ [d]) := dpa_app h (.cons q .nil)
end

/-! ### what a name holds; what is one's own -/
inductive SV where
  | d (x : PyData)
  | v (x : V)
  | s (ns : List Int)
inductive OO where
  | lst (ds : List PyData)
  | dic (kvs : List (Int × PyData))
  | ins (C dx : Addr) (fs : List (Str × V))
abbrev Own := List (Addr × OO)
abbrev En := List (Option SV)
def vis (O : Own) (H : Hp) : Hp := fun a => if a ∈ O.map (·.1) then none else H a
theorem vis_some {O : Own} {H : Hp} {a : Addr} {o : HO} (h : vis O H a = some o) : a ∉ O.map (·.1) ∧ H a = some o := by
  unfold vis at h
  split at h
  · cases h
  · exact ⟨by assumption, h⟩
theorem vis_of {O : Own} {H : Hp} {a : Addr} {o : HO} (h1 : a ∉ O.map (·.1)) (h2 : H a = some o) : vis O H a = some o := by
  unfold vis
  rw [if_neg h1]
  exact h2
theorem vis_sub (O : Own) (H : Hp) : Sub (vis O H) H := fun _ _ h => (vis_some h).2
def SVr (K : PySem.W.Frag) (W : Hp) (v : V) : SV → Prop
  | .d x => Dq W v x
  | .v y => v = y
  | .s ns => ∃ a, v = .ref a ∧ SqL K W a (ns.map V.int)
theorem SVr.sub {K : PySem.W.Frag} {W W' : Hp} {v : V} (e : Sub W W') : ∀ {r : SV}, SVr K W v r → SVr K W' v r
  | .d _, h => dp_sub e _ _ h
  | .v _, h => h
  | .s _, ⟨a, e1, e2⟩ => ⟨a, e1, sub_L e e2⟩
def ObjIs (K : PySem.W.Frag) (W H : Hp) (a : Addr) : OO → Prop
  | .lst ds => ∃ vs, H a = some (.lst vs) ∧ DqAll W vs ds
  | .dic kvs => ∃ vs : List (Key × V), H a = some (.dK vs) ∧ Paired (fun (p : Key × V) (q : Int × PyData) => p.1 = Sum.inl q.1 ∧ Dq W p.2 q.2) vs kvs
  | .ins C dx fs => H a = some (.ins C dx fs) ∧ H dx = some (.own a)
structure OwnOk (K : PySem.W.Frag) (O : Own) (H : Hp) : Prop where
  nd : (O.map (·.1)).Nodup
  is : ∀ p ∈ O, ObjIs K (vis O H) H p.1 p.2
theorem ObjIs.sub {K : PySem.W.Frag} {W W' H H' : Hp} {a : Addr} (e : Sub W W') (h : H' a = H a) : ∀ {o : OO}, (∀ dx, H dx = some (.own a) → H' dx = some (.own a)) → ObjIs K W H a o → ObjIs K W' H' a o
  | .lst _, _, ⟨vs, q, r⟩ => ⟨vs, h.trans q, dpAll_sub e _ _ r⟩
  | .dic _, _, ⟨vs, q, r⟩ => ⟨vs, h.trans q, Paired.mapP r fun _ _ z => ⟨z.1, dp_sub e _ _ z.2⟩⟩
  | .ins _ _ _, k, ⟨q, r⟩ => ⟨h.trans q, k _ r⟩
theorem ObjIs.some {K : PySem.W.Frag} {W H : Hp} {a : Addr} : ∀ {o : OO}, ObjIs K W H a o → ∃ u, H a = some u
  | .lst _, ⟨_, q, _⟩ => ⟨_, q⟩
  | .dic _, ⟨_, q, _⟩ => ⟨_, q⟩
  | .ins _ _ _, ⟨q, _⟩ => ⟨_, q⟩
/-- from (O, H) to (O', H'): all else is kept -/
structure Stp (K : PySem.W.Frag) (O : Own) (H : Hp) (O' : Own) (H' : Hp) : Prop where
  keep : ∀ a o, a ∉ O.map (·.1) → H a = some o → H' a = some o
  new : ∀ a, a ∈ O'.map (·.1) → a ∈ O.map (·.1) ∨ H a = none
  dom : ∀ a, H' a = none → H a = none
  ok : OwnOk K O' H'
section
variable {K : PySem.W.Frag} {O O1 O2 : Own} {H H1 H2 : Hp}
theorem Stp.refl (h : OwnOk K O H) : Stp K O H O H := ⟨fun _ _ _ h => h, fun _ h => .inl h, fun _ h => h, h⟩
theorem Stp.trans (a : Stp K O H O1 H1) (b : Stp K O1 H1 O2 H2) : Stp K O H O2 H2 where
  keep := fun x o n h => b.keep x o (fun z => (a.new x z).elim n fun e => by rw [h] at e; cases e) (a.keep x o n h)
  new := fun x h => (b.new x h).elim (a.new x) fun e => .inr (a.dom x e)
  dom := fun x h => a.dom x (b.dom x h)
  ok := b.ok
theorem Stp.vis (a : Stp K O H O1 H1) : Sub (vis O H) (vis O1 H1) := fun x o h => by
  obtain ⟨n, e⟩ := vis_some h
  exact vis_of (fun z => (a.new x z).elim n fun q => by rw [e] at q; cases q) (a.keep x o n e)
theorem Stp.sv (a : Stp K O H O1 H1) {v : V} {r : SV} (h : SVr K (Py.vis O H) v r) : SVr K (Py.vis O1 H1) v r := h.sub a.vis
/-- a new object that nobody owns -/
theorem Stp.laid {p : Addr} {o : HO} (h : OwnOk K O H) (hp : H p = none) : Stp K O H O (upd H p o) := by
  have np : p ∉ O.map (·.1) := fun z => by
    obtain ⟨q, hq, rfl⟩ := List.mem_map.mp z
    obtain ⟨u, e⟩ := (h.is q hq).some
    rw [hp] at e
    cases e
  have k : ∀ a o', H a = some o' → upd H p o a = some o' := fun a o' e => by rw [upd_ne (ne_of_none e hp)]; exact e
  refine ⟨fun a o' _ e => k a o' e, fun _ z => .inl z, fun a e => ?_, h.nd, fun q hq => ?_⟩
  · by_cases ha : a = p
    · subst ha
      exact hp
    · rw [upd_ne ha] at e
      exact e
  · refine (h.is q hq).sub (fun a o' z => ?_) ?_ (fun dx z => k _ _ z)
    · obtain ⟨z1, z2⟩ := vis_some z
      exact vis_of z1 (k _ _ z2)
    · obtain ⟨u, e⟩ := (h.is q hq).some
      rw [upd_ne (ne_of_none e hp)]
theorem OwnOk.fresh {p : Addr} (h : OwnOk K O H) (hp : H p = none) : p ∉ O.map (·.1) := fun z => by
  obtain ⟨q, hq, rfl⟩ := List.mem_map.mp z
  obtain ⟨u, e⟩ := (h.is q hq).some
  rw [hp] at e
  cases e
theorem vis_laid {p : Addr} {o : HO} (h : OwnOk K O H) (hp : H p = none) : vis O (upd H p o) p = some o := vis_of (h.fresh hp) upd_same
end

/-! ### states -/
structure Rep (K : PySem.W.Frag) (E : En) (O : Own) (σ : L2.St) (H : Hp) : Prop where
  len : σ.length = E.length
  own : OwnOk K O H
  sl : ∀ (i : Nat) (r : SV), E[i]? = some (some r) → ∃ v, σ[i]? = some (some v) ∧ SVr K (vis O H) v r
section
variable {K : PySem.W.Frag} {E : En} {O O1 : Own} {σ : L2.St} {H H1 : Hp}
theorem Rep.step (h : Rep K E O σ H) (a : Stp K O H O1 H1) : Rep K E O1 σ H1 := ⟨h.len, a.ok, fun i r e => by
  obtain ⟨v, q, z⟩ := h.sl i r e
  exact ⟨v, q, a.sv z⟩⟩
theorem Rep.set (h : Rep K E O σ H) (i : Nat) {v : V} {r : SV} (q : SVr K (vis O H) v r) : Rep K (E.set i (some r)) O (σ.set i (some v)) H := ⟨by rw [List.length_set, List.length_set]; exact h.len, h.own, fun j r' e => by
  by_cases hj : i = j
  · subst hj
    by_cases hl : i < E.length
    · rw [List.getElem?_set_self hl] at e
      cases e
      refine ⟨v, ?_, q⟩
      rw [List.getElem?_set_self (by rw [h.len]; exact hl)]
    · rw [List.getElem?_eq_none (by rw [List.length_set]; omega)] at e
      cases e
  · rw [List.getElem?_set_ne hj] at e
    rw [List.getElem?_set_ne hj]
    exact h.sl j r' e⟩
/-- some names forgotten -/
theorem Rep.weak {E' : En} (h : Rep K E O σ H) (hl : E'.length = E.length) (hs : ∀ (i : Nat) (r : SV), E'[i]? = some (some r) → E[i]? = some (some r)) : Rep K E' O σ H := ⟨h.len.trans hl.symm, h.own, fun i r e => h.sl i r (hs i r e)⟩
end

/-! ### the judgements by the machine itself -/
section
variable (X : Cx)
def WE (e : Expr) : TE := fun σ H Q => ∀ pins s, Inv X pins σ H s → wpAny (model X.prog X.w) X.A (eval e X.env) (EP X pins σ Q) X.xe s
def WT (e : Expr) : TT := fun σ H Q => ∀ pins s, Inv X pins σ H s → wpAny (model X.prog X.w) X.A (isTrue e X.env (eval e X.env)) (TP X pins σ Q) X.xe s
def WA (es : List Expr) : TA := fun σ H Q => ∀ (pos : Pos) pins s, Inv X pins σ H s → wpAny (model X.prog X.w) X.A (spliced (backTo pos (starEach es X.env))) (AP X pins σ Q) X.xe s
def WS (st : Stmt) : TS := fun D σ H => ∀ pins s, Inv X pins σ H s → wpAny (model X.prog X.w) X.A (exec st X.env) (SP X pins D) X.xe s
def WSs (st : List Stmt) : TS := fun D σ H => ∀ pins s, Inv X pins σ H s → wpAny (model X.prog X.w) X.A (execs st X.env) (SP X pins D) X.xe s
end
section
variable {X : Cx} {e : Expr} {es : List Expr} {st : Stmt} {sts : List Stmt} {σ : L2.St} {H : Hp}
theorem WE.pe : PE X e (WE X e) := ⟨fun pins s _ _ _ I h => h pins s I⟩
theorem WT.pt : PT X e (WT X e) := ⟨fun pins s _ _ _ I h => h pins s I⟩
theorem WA.pa : PA X es (WA X es) := ⟨fun pos pins s _ _ _ I h => h pos pins s I⟩
theorem WS.ps : PS X st (WS X st) := ⟨fun pins s _ _ _ I h => h pins s I⟩
theorem WSs.pss : PSs X sts (WSs X sts) := ⟨fun pins s _ _ _ I h => h pins s I⟩
theorem we_of {t : TE} {Q : VK} (p : PE X e t) (h : t σ H Q) : WE X e σ H Q := fun pins s I => p.run pins s σ H Q I h
theorem wt_of {t : TT} {Q : Bool → Hp → Prop} (p : PT X e t) (h : t σ H Q) : WT X e σ H Q := fun pins s I => p.run pins s σ H Q I h
theorem wa_of {t : TA} {Q : List V → Hp → Prop} (p : PA X es t) (h : t σ H Q) : WA X es σ H Q := fun pos pins s I => p.run pos pins s σ H Q I h
theorem ws_of {t : TS} {D : Ends} (p : PS X st t) (h : t D σ H) : WS X st D σ H := fun pins s I => p.run pins s σ H D I h
theorem wss_of {t : TS} {D : Ends} (p : PSs X sts t) (h : t D σ H) : WSs X sts D σ H := fun pins s I => p.run pins s σ H D I h
end
end Py
namespace Py
open PySem PySem.Spec PyProof.Rows L2

abbrev vI (n : Int) : SV := .d (.int n)
abbrev vB (b : Bool) : SV := .d (.bool b)
abbrev vS (x : Str) : SV := .d (.str x)
abbrev vT (ds : List PyData) : SV := .d (.tuple ds)
abbrev vL (ds : List PyData) : SV := .d (.list ds)
abbrev vN : SV := .d .none

/-! ### judgements -/
abbrev Kont (K : PySem.W.Frag) (O : Own) (H : Hp) (Φ : SV → Own → Prop) (Q : VK) : Prop := ∀ v H' r O', Φ r O' → Stp K O H O' H' → SVr K (vis O' H') v r → Q v H'
abbrev is1 (r : SV) (O : Own) : SV → Own → Prop := fun r' O' => r' = r ∧ O' = O
def EG (X : Cx) (e : Expr) (E : En) (O : Own) (Φ : SV → Own → Prop) : Prop := ∀ σ H, Rep X.K E O σ H → ∀ Q : VK, Kont X.K O H Φ Q → WE X e σ H Q
abbrev EX (X : Cx) (e : Expr) (E : En) (O : Own) (r : SV) : Prop := EG X e E O (is1 r O)
def TQ (X : Cx) (e : Expr) (E : En) (O : Own) (Φ : Bool → Own → Prop) : Prop := ∀ σ H, Rep X.K E O σ H → ∀ Q : Bool → Hp → Prop, (∀ b H' O', Φ b O' → Stp X.K O H O' H' → Q b H') → WT X e σ H Q
abbrev isB (b : Bool) (O : Own) : Bool → Own → Prop := fun b' O' => b' = b ∧ O' = O
abbrev ET (X : Cx) (e : Expr) (E : En) (O : Own) (b : Bool) : Prop := TQ X e E O (isB b O)
def WW (X : Cx) (e : Expr) : TT := fun σ H Q => ∀ (whole : Sem Value) pins s, Inv X pins σ H s → wpAny (model X.prog X.w) X.A (isTrue e X.env whole) (TP X pins σ Q) X.xe s
theorem WW.pw {X : Cx} {e : Expr} : PW X e (WW X e) := ⟨fun whole pins s _ _ _ I h => h whole pins s I⟩
theorem ww_of {X : Cx} {e : Expr} {σ : L2.St} {H : Hp} {t : TT} {Q : Bool → Hp → Prop} (p : PW X e t) (h : t σ H Q) : WW X e σ H Q := fun whole pins s I => p.run whole pins s σ H Q I h
def WQ (X : Cx) (e : Expr) (E : En) (O : Own) (Φ : Bool → Own → Prop) : Prop := ∀ σ H, Rep X.K E O σ H → ∀ Q : Bool → Hp → Prop, (∀ b H' O', Φ b O' → Stp X.K O H O' H' → Q b H') → WW X e σ H Q
abbrev EW (X : Cx) (e : Expr) (E : En) (O : Own) (b : Bool) : Prop := WQ X e E O (isB b O)
inductive SVs (K : PySem.W.Frag) (W : Hp) : List V → List SV → Prop
  | nil : SVs K W [] []
  | cons {v : V} {vs : List V} {r : SV} {rs : List SV} : SVr K W v r → SVs K W vs rs → SVs K W (v :: vs) (r :: rs)
theorem SVs.sub {K : PySem.W.Frag} {W W' : Hp} (e : Sub W W') : ∀ {vs : List V} {rs : List SV}, SVs K W vs rs → SVs K W' vs rs
  | _, _, .nil => .nil
  | _, _, .cons h t => .cons (h.sub e) (t.sub e)
theorem SVs.len {K : PySem.W.Frag} {W : Hp} : ∀ {vs : List V} {rs : List SV}, SVs K W vs rs → vs.length = rs.length
  | _, _, .nil => rfl
  | _, _, .cons _ t => by rw [List.length_cons, List.length_cons, t.len]
theorem SVs.data {K : PySem.W.Frag} {W : Hp} : ∀ {vs : List V} {ds : List PyData}, SVs K W vs (ds.map SV.d) → DqAll W vs ds
  | _, [], .nil => .nil
  | _, _ :: _, .cons h t => .cons h t.data
theorem SVs.of {K : PySem.W.Frag} {W : Hp} : ∀ {vs : List V} {ds : List PyData}, DqAll W vs ds → SVs K W vs (ds.map SV.d)
  | _, [], .nil => .nil
  | _, _ :: _, .cons h t => .cons h (SVs.of t)
def AQ (X : Cx) (es : List Expr) (E : En) (O : Own) (Φ : List SV → Own → Prop) : Prop := ∀ σ H, Rep X.K E O σ H → ∀ Q : List V → Hp → Prop, (∀ vs H' rs O', Φ rs O' → Stp X.K O H O' H' → SVs X.K (vis O' H') vs rs → Q vs H') → WA X es σ H Q
abbrev isA (rs : List SV) (O : Own) : List SV → Own → Prop := fun rs' O' => rs' = rs ∧ O' = O
abbrev EA (X : Cx) (es : List Expr) (E : En) (O : Own) (rs : List SV) : Prop := AQ X es E O (isA rs O)

section
variable {X : Cx} {a b c e : Expr} {es : List Expr} {E : En} {O : Own} {pos : Pos}

theorem EG.mono {Φ Ψ : SV → Own → Prop} (h : EG X e E O Φ) (k : ∀ r O', Φ r O' → Ψ r O') : EG X e E O Ψ := fun σ H R Q q => h σ H R Q fun v H' r O' f st z => q v H' r O' (k r O' f) st z
theorem EX.cast {r r' : SV} (h : EX X e E O r) (k : r = r') : EX X e E O r' := by
  subst k
  exact h
theorem ET.cast {b b' : Bool} (h : ET X e E O b) (k : b = b') : ET X e E O b' := by
  subst k
  exact h

/-! names, constants -/
theorem x_var (i : Nat) {x : Str} {r : SV} (h : E[i]? = some (some r) := by rfl) (hN : X.N[i]? = some x := by rfl) (hv : Vis X.env.scope x := by first | exact Or.inl rfl | exact Or.inr (Or.inl rfl) | exact Or.inr (Or.inr rfl)) (hd : (x == ("__debug__" : Str)) = false := by decide)
    (hcd : (x == ("__classdict__" : Str)) = false := by decide) : EX X (.Name x pos) E O r := fun σ H R Q q => we_of (pe_var hN hv hd hcd) (by
  obtain ⟨v, e, z⟩ := R.sl i r h
  exact ⟨v, e, q v H r O ⟨rfl, rfl⟩ (.refl R.own) z⟩)
theorem x_int {n : Int} {j : Nat} : EX X (.Constant (.int n) j pos) E O (vI n) := fun σ H R Q q => we_of pe_int (q _ H _ O ⟨rfl, rfl⟩ (.refl R.own) (.int n))
theorem x_bl {n : Bool} {j : Nat} : EX X (.Constant (.bool n) j pos) E O (vB n) := fun σ H R Q q => we_of pe_bl (q _ H _ O ⟨rfl, rfl⟩ (.refl R.own) (.bl n))
theorem x_str {n : Str} {j : Nat} : EX X (.Constant (.str n) j pos) E O (vS n) := fun σ H R Q q => we_of pe_str (q _ H _ O ⟨rfl, rfl⟩ (.refl R.own) (.str n))
theorem x_non {j : Nat} : EX X (.Constant .none j pos) E O vN := fun σ H R Q q => we_of pe_non (q _ H _ O ⟨rfl, rfl⟩ (.refl R.own) .non)
theorem x_glob {x : Str} {v : V} {u : Value} {r : SV} (hg : Gl X x) (hm : X.mg x = some u) (rv : RelV v u) (hr : ∀ W, SVr X.K W v r) (hd : (x == ("__debug__" : Str)) = false := by decide) : EX X (.Name x pos) E O r :=
  fun σ H R Q q => we_of (pe_glob hg hm rv hd) (q _ H _ O ⟨rfl, rfl⟩ (.refl R.own) (hr _))

/-! operations -/
theorem g_op {rr : R2} {Φ Ψ : SV → Own → Prop} (p : PE X e (tOp rr (WE X a) (WE X b))) (ha : EG X a E O Φ)
    (hb : ∀ r1 O1, Φ r1 O1 → EG X b E O1 fun r2 O2 => ∀ x y H2, OwnOk X.K O2 H2 → SVr X.K (vis O2 H2) x r1 → SVr X.K (vis O2 H2) y r2 → ∀ Q, Kont X.K O2 H2 Ψ Q → rr x y H2 Q) : EG X e E O Ψ := fun σ H R Q q => we_of p (by
  refine ha σ H R _ fun x H1 r1 O1 f1 s1 z1 => ?_
  refine hb r1 O1 f1 σ H1 (R.step s1) _ fun y H2 r2 O2 f2 s2 z2 => ?_
  exact f2 x y H2 s2.ok (s2.sv z1) z2 Q fun v H' r O' f s z => q v H' r O' f ((s1.trans s2).trans s) z)
theorem x_op {rr : R2} {r1 r2 r : SV} (p : PE X e (tOp rr (WE X a) (WE X b))) (ha : EX X a E O r1) (hb : EX X b E O r2)
    (h : ∀ x y H, OwnOk X.K O H → SVr X.K (vis O H) x r1 → SVr X.K (vis O H) y r2 → ∀ Q, Kont X.K O H (is1 r O) Q → rr x y H Q) : EX X e E O r :=
  g_op p ha fun _ _ ⟨e1, e2⟩ => by
    subst e1; subst e2
    exact hb.mono fun _ _ ⟨e1, e2⟩ => by
      subst e1; subst e2
      exact h
theorem g_un {rr : V → Hp → VK → Prop} {Φ Ψ : SV → Own → Prop} (p : PE X e (tUn rr (WE X a))) (ha : EG X a E O Φ)
    (h : ∀ r1 O1, Φ r1 O1 → ∀ x H1, OwnOk X.K O1 H1 → SVr X.K (vis O1 H1) x r1 → ∀ Q, Kont X.K O1 H1 Ψ Q → rr x H1 Q) : EG X e E O Ψ := fun σ H R Q q => we_of p (by
  refine ha σ H R _ fun x H1 r1 O1 f1 s1 z1 => ?_
  exact h r1 O1 f1 x H1 s1.ok z1 Q fun v H' r O' f s z => q v H' r O' f (s1.trans s) z)
theorem int_of {K : PySem.W.Frag} {W : Hp} {v : V} {i : Int} (h : SVr K W v (vI i)) : v = .int i := by cases h; rfl
theorem bl_of {K : PySem.W.Frag} {W : Hp} {v : V} {i : Bool} (h : SVr K W v (vB i)) : v = .bl i := by cases h; rfl
theorem str_of {K : PySem.W.Frag} {W : Hp} {v : V} {i : Str} (h : SVr K W v (vS i)) : v = .str i := by cases h; rfl
theorem non_of {K : PySem.W.Frag} {W : Hp} {v : V} (h : SVr K W v vN) : v = .non := by cases h; rfl
theorem lst_of {K : PySem.W.Frag} {W : Hp} {v : V} {ds : List PyData} (h : SVr K W v (vL ds)) : ∃ a vs, v = .ref a ∧ W a = some (.lst vs) ∧ DqAll W vs ds := by
  cases h with
  | lst h1 h2 => exact ⟨_, _, rfl, h1, h2⟩
theorem tup_of {K : PySem.W.Frag} {W : Hp} {v : V} {ds : List PyData} (h : SVr K W v (vT ds)) : ∃ a vs, v = .ref a ∧ W a = some (.tup vs) ∧ DqAll W vs ds := by
  cases h with
  | tup h1 h2 => exact ⟨_, _, rfl, h1, h2⟩
theorem x_I0 {rr : R2} {g : Int → Int → V} {k : Int → Int → PyData} {i j : Int} (hr : rr = rI0 g) (p : PE X e (tOp rr (WE X a) (WE X b))) (hk : ∀ W, Dq W (g i j) (k i j)) (ha : EX X a E O (vI i)) (hb : EX X b E O (vI j)) : EX X e E O (.d (k i j)) := by
  subst hr
  refine x_op p ha hb fun x y H ok hx hy Q q => ?_
  exact ⟨i, j, int_of hx, int_of hy, q _ H _ O ⟨rfl, rfl⟩ (.refl ok) (hk _)⟩
theorem x_I {rr : R2} {C : Int → Int → Prop} {g : Int → Int → V} {k : Int → Int → PyData} {i j : Int} (hr : rr = rI C g) (p : PE X e (tOp rr (WE X a) (WE X b))) (hk : ∀ W, Dq W (g i j) (k i j)) (ha : EX X a E O (vI i)) (hb : EX X b E O (vI j)) (hc : C i j) : EX X e E O (.d (k i j)) := by
  subst hr
  refine x_op p ha hb fun x y H ok hx hy Q q => ?_
  exact ⟨i, j, int_of hx, int_of hy, hc, q _ H _ O ⟨rfl, rfl⟩ (.refl ok) (hk _)⟩
variable {i j : Int}
theorem x_add (ha : EX X a E O (vI i)) (hb : EX X b E O (vI j)) : EX X (.BinOp a .Add b pos) E O (vI (i + j)) := x_I0 (k := fun i j => .int (i + j)) rfl (pe_op op_add WE.pe WE.pe) (fun _ => .int _) ha hb
theorem x_sub (ha : EX X a E O (vI i)) (hb : EX X b E O (vI j)) : EX X (.BinOp a .Sub b pos) E O (vI (i - j)) := x_I0 (k := fun i j => .int (i - j)) rfl (pe_op op_sub WE.pe WE.pe) (fun _ => .int _) ha hb
theorem x_mul (ha : EX X a E O (vI i)) (hb : EX X b E O (vI j)) (h : CMul i j) : EX X (.BinOp a .Mult b pos) E O (vI (i * j)) := x_I (k := fun i j => .int (i * j)) rfl (pe_op op_mul WE.pe WE.pe) (fun _ => .int _) ha hb h
theorem x_fdiv (ha : EX X a E O (vI i)) (hb : EX X b E O (vI j)) (h : 0 < j ∧ j < 1073741824) : EX X (.BinOp a .FloorDiv b pos) E O (vI (i / j)) := x_I (k := fun i j => .int (i / j)) rfl (pe_op op_fdiv WE.pe WE.pe) (fun _ => .int _) ha hb h
theorem x_mod (ha : EX X a E O (vI i)) (hb : EX X b E O (vI j)) (h : 0 < j) : EX X (.BinOp a .Mod b pos) E O (vI (i % j)) := x_I (k := fun i j => .int (i % j)) rfl (pe_op op_mod WE.pe WE.pe) (fun _ => .int _) ha hb h
theorem x_pow (ha : EX X a E O (vI i)) (hb : EX X b E O (vI j)) (h : 0 ≤ j ∧ j ≤ 1000000 ∧ i.natAbs < 2 ^ 64) : EX X (.BinOp a .Pow b pos) E O (vI (i ^ j.toNat)) := x_I (k := fun i j => .int (i ^ j.toNat)) rfl (pe_op op_pow WE.pe WE.pe) (fun _ => .int _) ha hb h
theorem x_neg (ha : EX X a E O (vI i)) : EX X (.UnaryOp .USub a pos) E O (vI (-i)) := by
  refine g_un (pe_un un_neg WE.pe) ha fun r1 O1 ⟨e1, e2⟩ x H1 ok z Q q => ?_
  subst e1; subst e2
  exact ⟨i, int_of z, q _ H1 _ _ ⟨rfl, rfl⟩ (.refl ok) (.int _)⟩

/-! comparisons -/
def WC (X : Cx) (op : CmpOp) (a b : Expr) : TE := fun σ H Q => ∀ pins s, Inv X pins σ H s →
  wpAny (model X.prog X.w) X.A (eval a X.env) (fun v s₁ => wpAny (model X.prog X.w) X.A (eval b X.env) (fun u s₂ => wpAny (model X.prog X.w) X.A (compareOp op v u) (EP X pins σ Q) X.xe s₂) X.xe s₁) X.xe s
theorem WC.pc {op : CmpOp} : PC X op a b (WC X op a b) := ⟨fun pins s _ _ _ I h => h pins s I⟩
theorem wc_of {op : CmpOp} {t : TE} {σ : L2.St} {H : Hp} {Q : VK} (p : PC X op a b t) (h : t σ H Q) : WC X op a b σ H Q := fun pins s I => p.run pins s σ H Q I h
theorem pc_op {op : CmpOp} {rr : R2} {ta tb : TE} (ho : OpR X (compareOp op) rr) (ha : PE X a ta) (hb : PE X b tb) : PC X op a b (tOp rr ta tb) := ⟨fun pins s σ H Q I h =>
  thn (ha.run pins s σ H _ I h) fun v s1 ⟨x, H1, I1, r1, q1⟩ => thn (hb.run pins s1 σ H1 _ I1 q1) fun u s2 ⟨y, H2, I2, r2, q2⟩ => ho pins s2 σ H2 x y v u _ I2 r1 r2 q2⟩
def CG (X : Cx) (op : CmpOp) (a b : Expr) (E : En) (O : Own) (Φ : SV → Own → Prop) : Prop := ∀ σ H, Rep X.K E O σ H → ∀ Q : VK, Kont X.K O H Φ Q → WC X op a b σ H Q
abbrev CX1 (X : Cx) (op : CmpOp) (a b : Expr) (E : En) (O : Own) (k : Bool) : Prop := CG X op a b E O (is1 (vB k) O)
/-- a comparison as a value, as a test -/
theorem xc {op : CmpOp} {k : Bool} (h : CX1 X op a b E O k) (h1 : behindInMarks op b = false := by first | exact nobehind _ (by decide) (by decide) | rfl) : EX X (.Compare a [op] [b] pos) E O (vB k) := fun σ H R Q q => we_of (pe_cmp WC.pc h1) (h σ H R Q q)
theorem tc {op : CmpOp} {k : Bool} (h : CX1 X op a b E O k) (h1 : behindInMarks op b = false := by first | exact nobehind _ (by decide) (by decide) | rfl) : ET X (.Compare a [op] [b] pos) E O k := fun σ H R Q q => wt_of (pt_cmp WC.pc h1) (by
  refine h σ H R _ fun v H' r O' ⟨e1, e2⟩ s z => ?_
  subst e1; subst e2
  exact ⟨k, bl_of z, q k H' _ ⟨rfl, rfl⟩ s⟩)
theorem CX1.cast {op : CmpOp} {k k' : Bool} (h : CX1 X op a b E O k) (e : k = k') : CX1 X op a b E O k' := by
  subst e
  exact h
theorem gc_op {op : CmpOp} {rr : R2} {Φ Ψ : SV → Own → Prop} (ho : OpR X (compareOp op) rr) (ha : EG X a E O Φ)
    (hb : ∀ r1 O1, Φ r1 O1 → EG X b E O1 fun r2 O2 => ∀ x y H2, OwnOk X.K O2 H2 → SVr X.K (vis O2 H2) x r1 → SVr X.K (vis O2 H2) y r2 → ∀ Q, Kont X.K O2 H2 Ψ Q → rr x y H2 Q) : CG X op a b E O Ψ := fun σ H R Q q => wc_of (pc_op ho WE.pe WE.pe) (by
  refine ha σ H R _ fun x H1 r1 O1 f1 s1 z1 => ?_
  refine hb r1 O1 f1 σ H1 (R.step s1) _ fun y H2 r2 O2 f2 s2 z2 => ?_
  exact f2 x y H2 s2.ok (s2.sv z1) z2 Q fun v H' r O' f s z => q v H' r O' f ((s1.trans s2).trans s) z)
theorem c_op {op : CmpOp} {rr : R2} {r1 r2 : SV} {k : Bool} (ho : OpR X (compareOp op) rr) (ha : EX X a E O r1) (hb : EX X b E O r2)
    (h : ∀ x y H, OwnOk X.K O H → SVr X.K (vis O H) x r1 → SVr X.K (vis O H) y r2 → ∀ Q, Kont X.K O H (is1 (vB k) O) Q → rr x y H Q) : CX1 X op a b E O k :=
  gc_op ho ha fun _ _ ⟨e1, e2⟩ => by
    subst e1; subst e2
    exact hb.mono fun _ _ ⟨e1, e2⟩ => by
      subst e1; subst e2
      exact h
theorem c_I {op : CmpOp} {f : Int → Int → Bool} (ho : OpR X (compareOp op) (rI0 fun i j => .bl (f i j))) (ha : EX X a E O (vI i)) (hb : EX X b E O (vI j)) : CX1 X op a b E O (f i j) :=
  c_op ho ha hb fun x y H ok hx hy Q q => ⟨i, j, int_of hx, int_of hy, q _ H _ O ⟨rfl, rfl⟩ (.refl ok) (.bl _)⟩
theorem c_lt (ha : EX X a E O (vI i)) (hb : EX X b E O (vI j)) : CX1 X .Lt a b E O (decide (i < j)) := c_I op_lt ha hb
theorem c_le (ha : EX X a E O (vI i)) (hb : EX X b E O (vI j)) : CX1 X .LtE a b E O (decide (i ≤ j)) := c_I op_le ha hb
theorem c_gt (ha : EX X a E O (vI i)) (hb : EX X b E O (vI j)) : CX1 X .Gt a b E O (decide (j < i)) := c_I op_gt ha hb
theorem c_ge (ha : EX X a E O (vI i)) (hb : EX X b E O (vI j)) : CX1 X .GtE a b E O (decide (j ≤ i)) := c_I op_ge ha hb
theorem c_eqD {d d' : PyData} (ha : EX X a E O (.d d)) (hb : EX X b E O (.d d')) (h1 : SeqAt.shaped d = true) (h2 : SeqAt.shaped d' = true) (hu : X.A.units + 64 < cLine := by assumption) : CX1 X .Eq a b E O (PyData.eqv d d') :=
  c_op (op_eqD hu) ha hb fun x y H ok hx hy Q q => ⟨d, d', dq_dp _ _ (dp_sub (vis_sub _ _) _ _ hx), dq_dp _ _ (dp_sub (vis_sub _ _) _ _ hy), h1, h2, q _ H _ O ⟨rfl, rfl⟩ (.refl ok) (.bl _)⟩
theorem c_neD {d d' : PyData} (ha : EX X a E O (.d d)) (hb : EX X b E O (.d d')) (h1 : SeqAt.shaped d = true) (h2 : SeqAt.shaped d' = true) (hu : X.A.units + 64 < cLine := by assumption) : CX1 X .NotEq a b E O (!PyData.eqv d d') :=
  c_op (op_neD hu) ha hb fun x y H ok hx hy Q q => ⟨d, d', dq_dp _ _ (dp_sub (vis_sub _ _) _ _ hx), dq_dp _ _ (dp_sub (vis_sub _ _) _ _ hy), h1, h2, q _ H _ O ⟨rfl, rfl⟩ (.refl ok) (.bl _)⟩
theorem c_eq (ha : EX X a E O (vI i)) (hb : EX X b E O (vI j)) (hu : X.A.units + 64 < cLine := by assumption) : CX1 X .Eq a b E O (i == j) := c_eqD ha hb rfl rfl hu
theorem c_ne (ha : EX X a E O (vI i)) (hb : EX X b E O (vI j)) (hu : X.A.units + 64 < cLine := by assumption) : CX1 X .NotEq a b E O (!(i == j)) := c_neD ha hb rfl rfl hu

/-! tests -/
theorem t_val {b : Bool} (h : EX X e E O (vB b)) (he : ∀ whole, isTrue e X.env whole = (do let v ← whole; standAt e.pos; holding [v] (truthy v)) := by intro _; rfl) : ET X e E O b := fun σ H R Q q => wt_of (pt_val WE.pe he) (by
  refine h σ H R _ fun v H' r O' ⟨e1, e2⟩ s z => ?_
  subst e1; subst e2
  exact ⟨b, bl_of z, q b H' _ ⟨rfl, rfl⟩ s⟩)
theorem t_w {b : Bool} (h : EW X e E O b) : ET X e E O b := fun σ H R Q q => wt_of WW.pw.pt (h σ H R Q q)
theorem w_and1 {b : Bool} (h : ET X a E O b) : EW X (.BoolOp .And [a] pos) E O b := fun σ H R Q q => ww_of (pw_and1 WT.pt) (h σ H R Q q)
theorem w_or1 {b : Bool} (h : ET X a E O b) : EW X (.BoolOp .Or [a] pos) E O b := fun σ H R Q q => ww_of (pw_or1 WT.pt) (h σ H R Q q)
theorem w_and {k k' : Bool} (h : ET X a E O k) (h' : k = true → EW X (.BoolOp .And (b :: es) pos) E O k') : EW X (.BoolOp .And (a :: b :: es) pos) E O (k && k') := fun σ H R Q q => ww_of (pw_and WT.pt WW.pw) (by
  refine h σ H R _ fun k1 H1 O1 ⟨e1, e2⟩ s1 => ?_
  subst e1; subst e2
  cases k1 with
  | true =>
    rw [if_pos rfl]
    exact h' rfl σ H1 (R.step s1) Q fun k2 H2 O2 ⟨e1, e2⟩ s2 => by
      subst e1; subst e2
      exact q _ H2 _ ⟨by simp, rfl⟩ (s1.trans s2)
  | false =>
    rw [if_neg Bool.false_ne_true]
    exact q _ H1 _ ⟨by simp, rfl⟩ s1)
theorem w_or {k k' : Bool} (h : ET X a E O k) (h' : k = false → EW X (.BoolOp .Or (b :: es) pos) E O k') : EW X (.BoolOp .Or (a :: b :: es) pos) E O (k || k') := fun σ H R Q q => ww_of (pw_or WT.pt WW.pw) (by
  refine h σ H R _ fun k1 H1 O1 ⟨e1, e2⟩ s1 => ?_
  subst e1; subst e2
  cases k1 with
  | true =>
    rw [if_pos rfl]
    exact q _ H1 _ ⟨by simp, rfl⟩ s1
  | false =>
    rw [if_neg Bool.false_ne_true]
    exact h' rfl σ H1 (R.step s1) Q fun k2 H2 O2 ⟨e1, e2⟩ s2 => by
      subst e1; subst e2
      exact q _ H2 _ ⟨by simp, rfl⟩ (s1.trans s2))
theorem t_not {k : Bool} (h : ET X a E O k) : ET X (.UnaryOp .Not a pos) E O (!k) := fun σ H R Q q => wt_of (pt_not WT.pt) (by
  refine h σ H R _ fun k1 H1 O1 ⟨e1, e2⟩ s1 => ?_
  subst e1; subst e2
  exact q _ H1 _ ⟨rfl, rfl⟩ s1)
theorem x_one {op : BoolOp} {r : SV} (h : EX X a E O r) : EX X (.BoolOp op [a] pos) E O r := fun σ H R Q q => we_of (pe_one WE.pe) (h σ H R Q q)
theorem x_and {k k' : Bool} (h : EX X a E O (vB k)) (h' : k = true → EX X (.BoolOp .And (b :: es) pos) E O (vB k')) : EX X (.BoolOp .And (a :: b :: es) pos) E O (vB (k && k')) := fun σ H R Q q => we_of (pe_and WE.pe WE.pe) (by
  refine h σ H R _ fun v H1 r O1 ⟨e1, e2⟩ s1 z => ?_
  subst e1; subst e2
  refine ⟨k, bl_of z, ?_⟩
  cases k with
  | true =>
    rw [if_pos rfl]
    exact h' rfl σ H1 (R.step s1) Q fun v H2 r O2 ⟨e1, e2⟩ s2 z2 => by
      subst e1; subst e2
      exact q _ H2 _ _ ⟨by simp, rfl⟩ (s1.trans s2) z2
  | false =>
    rw [if_neg Bool.false_ne_true]
    exact q _ H1 (vB false) _ ⟨by simp, rfl⟩ s1 (.bl false))
theorem x_or {k k' : Bool} (h : EX X a E O (vB k)) (h' : k = false → EX X (.BoolOp .Or (b :: es) pos) E O (vB k')) : EX X (.BoolOp .Or (a :: b :: es) pos) E O (vB (k || k')) := fun σ H R Q q => we_of (pe_or WE.pe WE.pe) (by
  refine h σ H R _ fun v H1 r O1 ⟨e1, e2⟩ s1 z => ?_
  subst e1; subst e2
  refine ⟨k, bl_of z, ?_⟩
  cases k with
  | true =>
    rw [if_pos rfl]
    exact q _ H1 (vB true) _ ⟨by simp, rfl⟩ s1 (.bl true)
  | false =>
    rw [if_neg Bool.false_ne_true]
    exact h' rfl σ H1 (R.step s1) Q fun v H2 r O2 ⟨e1, e2⟩ s2 z2 => by
      subst e1; subst e2
      exact q _ H2 _ _ ⟨by simp, rfl⟩ (s1.trans s2) z2)
theorem x_not {k : Bool} (h : EX X a E O (vB k)) : EX X (.UnaryOp .Not a pos) E O (vB (!k)) := fun σ H R Q q => we_of (pe_not WE.pe) (by
  refine h σ H R _ fun v H1 r O1 ⟨e1, e2⟩ s1 z => ?_
  subst e1; subst e2
  exact ⟨k, bl_of z, q _ H1 _ _ ⟨rfl, rfl⟩ s1 (.bl _)⟩)
/-- a is None, of data -/
def isNon : PyData → Bool
  | .none => true
  | _ => false
theorem dp_non {W : Hp} {v : V} {d : PyData} (h : Dq W v d) : decide (v = .non) = isNon d := by
  cases h <;> rfl
theorem c_isN {d : PyData} {j : Nat} {pos' : Pos} (h : EX X a E O (.d d)) : CX1 X .Is a (.Constant .none j pos') E O (isNon d) := fun σ H R Q q => wc_of (pc_isN WE.pe) (by
  refine h σ H R _ fun v H1 r O1 ⟨e1, e2⟩ s1 z => ?_
  subst e1; subst e2
  exact q _ H1 _ _ ⟨rfl, rfl⟩ s1 (by rw [dp_non z]; exact .bl _))
theorem c_notN {d : PyData} {j : Nat} {pos' : Pos} (h : EX X a E O (.d d)) : CX1 X .IsNot a (.Constant .none j pos') E O (!isNon d) := fun σ H R Q q => wc_of (pc_notN WE.pe) (by
  refine h σ H R _ fun v H1 r O1 ⟨e1, e2⟩ s1 z => ?_
  subst e1; subst e2
  exact q _ H1 _ _ ⟨rfl, rfl⟩ s1 (by rw [dp_non z]; exact .bl _))
/-- a < b < c of ints -/
theorem chain_core {f g : Int → Int → Bool} {k : Int} (ha : EX X a E O (vI i)) (hb : EX X b E O (vI j)) (hc : EX X c E O (vI k)) {σ : L2.St} {H : Hp} (R : Rep X.K E O σ H) {Q : VK} (q : Kont X.K O H (is1 (vB (f i j && g j k)) O) Q) :
    tChain (rI0 fun i j => .bl (f i j)) (rI0 fun i j => .bl (g i j)) (WE X a) (WE X b) (WE X c) σ H Q := by
  refine ha σ H R _ fun x H1 r1 O1 ⟨e1, e2⟩ s1 z1 => ?_
  subst e1; subst e2
  refine hb σ H1 (R.step s1) _ fun y H2 r2 O2 ⟨e1, e2⟩ s2 z2 => ?_
  subst e1; subst e2
  refine ⟨i, j, int_of z1, int_of z2, f i j, rfl, ?_⟩
  cases hf : f i j with
  | true =>
    rw [if_pos rfl]
    refine hc σ H2 (R.step (s1.trans s2)) _ fun w H3 r3 O3 ⟨e1, e2⟩ s3 z3 => ?_
    subst e1; subst e2
    refine ⟨j, k, int_of z2, int_of z3, q _ H3 (vB (g j k)) _ ⟨by simp [hf], rfl⟩ ((s1.trans s2).trans s3) (.bl _)⟩
  | false =>
    rw [if_neg Bool.false_ne_true]
    exact q _ H2 (vB false) _ ⟨by simp [hf], rfl⟩ (s1.trans s2) (.bl _)
theorem x_chain {op op' : CmpOp} {f g : Int → Int → Bool} {k : Int} (h1 : OpR X (compareOp op) (rI0 fun i j => .bl (f i j))) (h2 : OpR X (compareOp op') (rI0 fun i j => .bl (g i j)))
    (ha : EX X a E O (vI i)) (hb : EX X b E O (vI j)) (hc : EX X c E O (vI k)) (hm : lastMarks [op, op'] [b, c] = false := by with_unfolding_all rfl) : EX X (.Compare a [op, op'] [b, c] pos) E O (vB (f i j && g j k)) := fun σ H R Q q => we_of (pe_chain h1 h2 WE.pe WE.pe WE.pe hm) (chain_core ha hb hc R q)
theorem t_chain {op op' : CmpOp} {f g : Int → Int → Bool} {k : Int} (h1 : OpR X (compareOp op) (rI0 fun i j => .bl (f i j))) (h2 : OpR X (compareOp op') (rI0 fun i j => .bl (g i j)))
    (ha : EX X a E O (vI i)) (hb : EX X b E O (vI j)) (hc : EX X c E O (vI k)) (hm : lastMarks [op, op'] [b, c] = false := by with_unfolding_all rfl) : ET X (.Compare a [op, op'] [b, c] pos) E O (f i j && g j k) := fun σ H R Q q => wt_of (pt_chain h1 h2 WE.pe WE.pe WE.pe hm)
  (chain_core (f := f) (g := g) ha hb hc R fun v H' r O' ⟨e1, e2⟩ s z => by
    subst e1; subst e2
    exact ⟨_, bl_of z, q _ H' _ ⟨rfl, rfl⟩ s⟩)

/-! arguments, displays -/
theorem a_nil : EA X [] E O [] := fun σ H R Q q => wa_of pa_nil (q _ H _ _ ⟨rfl, rfl⟩ (.refl R.own) .nil)
theorem a_cons {r : SV} {rs : List SV} (h : EX X e E O r) (hr : EA X es E O rs) (hs : starEach (e :: es) X.env = (false, eval e X.env) :: starEach es X.env := by rfl) : EA X (e :: es) E O (r :: rs) := fun σ H R Q q => wa_of (pa_cons WE.pe WA.pa hs) (by
  refine h σ H R _ fun v H1 r1 O1 ⟨e1, e2⟩ s1 z1 => ?_
  subst e1; subst e2
  refine hr σ H1 (R.step s1) _ fun vs H2 rs2 O2 ⟨e1, e2⟩ s2 z2 => ?_
  subst e1; subst e2
  exact q _ H2 _ _ ⟨rfl, rfl⟩ (s1.trans s2) (.cons (s2.sv z1) z2))
theorem x_tup {ds : List PyData} {k : Nat} (h : EA X es E O (ds.map .d)) (hl : ds.length ≤ 100000) : EX X (.Tuple es k pos) E O (vT ds) := fun σ H R Q q => we_of (pe_tup WA.pa) (by
  refine h σ H R _ fun vs H1 rs O1 ⟨e1, e2⟩ s1 z1 => ?_
  subst e1; subst e2
  have hd := z1.data
  refine ⟨by rw [dpa_len hd]; exact Nat.le_trans hl (by decide), fun p hp => ?_⟩
  have s2 := Stp.laid (o := .tup vs) s1.ok hp
  exact q _ _ _ _ ⟨rfl, rfl⟩ (s1.trans s2) (.tup (vis_laid s1.ok hp) (dpAll_sub s2.vis _ _ hd)))
theorem x_lst {ds : List PyData} (h : EA X es E O (ds.map .d)) (hl : ds.length ≤ 100000) : EX X (.List es pos) E O (vL ds) := fun σ H R Q q => we_of (pe_lst WA.pa) (by
  refine h σ H R _ fun vs H1 rs O1 ⟨e1, e2⟩ s1 z1 => ?_
  subst e1; subst e2
  have hd := z1.data
  refine ⟨by rw [dpa_len hd]; exact Nat.le_trans hl (by decide), fun p hp => ?_⟩
  have s2 := Stp.laid (o := .lst vs) s1.ok hp
  exact q _ _ _ _ ⟨rfl, rfl⟩ (s1.trans s2) (.lst (vis_laid s1.ok hp) (dpAll_sub s2.vis _ _ hd)))

/-! subscripts -/
theorem atI_map {W : Hp} {vs : List V} {ds : List PyData} {i : Int} {d : PyData} (h : DqAll W vs ds) (e : atI ds i = some d) : ∃ v, atI vs i = some v ∧ Dq W v d := by
  unfold atI at e ⊢
  rw [dpa_len h]
  cases q : ixN ds.length i with
  | none => rw [q] at e; cases e
  | some j =>
    rw [q] at e
    obtain ⟨v, h1, h2⟩ := dpa_at_ h (show ds[j]? = some d from e)
    exact ⟨v, h1, h2⟩
theorem x_ixT {ds : List PyData} {d : PyData} (ha : EX X a E O (vT ds)) (hb : EX X b E O (vI i)) (h : atI ds i = some d) (hs : PlainIx b := by exact fun _ _ => rfl) : EX X (.Subscript a b pos) E O (.d d) :=
  x_op (pe_ix ix_tup WE.pe WE.pe hs) ha hb fun x y H ok hx hy Q q => by
    obtain ⟨p, vs, e1, h1, h2⟩ := tup_of hx
    obtain ⟨v, h3, h4⟩ := atI_map h2 h
    exact ⟨p, vs, i, v, e1, int_of hy, SqT.of (vis_sub _ _ _ _ h1), h3, q _ H _ _ ⟨rfl, rfl⟩ (.refl ok) h4⟩
theorem x_ixL {ds : List PyData} {d : PyData} (ha : EX X a E O (vL ds)) (hb : EX X b E O (vI i)) (h : atI ds i = some d) (hs : PlainIx b := by exact fun _ _ => rfl) : EX X (.Subscript a b pos) E O (.d d) :=
  x_op (pe_ix ix_list WE.pe WE.pe hs) ha hb fun x y H ok hx hy Q q => by
    obtain ⟨p, vs, e1, h1, h2⟩ := lst_of hx
    obtain ⟨v, h3, h4⟩ := atI_map h2 h
    exact ⟨p, vs, i, v, e1, int_of hy, SqL.of (vis_sub _ _ _ _ h1), h3, q _ H _ _ ⟨rfl, rfl⟩ (.refl ok) h4⟩

/-! calls of built-ins by name -/
theorem g_cb {id : String} {x : Str} {p : Pos} {rr : List V → Hp → VK → Prop} {rs : List SV} {Ψ : SV → Own → Prop} (hc : CallR X (.builtin id) rr) (hg : Gl X x) (hm : X.mg x = none) (hv : bootBuiltins x = some (.builtin id)) (ha : EA X (e :: es) E O rs)
    (h : ∀ vs H, OwnOk X.K O H → SVs X.K (vis O H) vs rs → ∀ Q, Kont X.K O H Ψ Q → rr vs H Q) (hn : x ≠ "__name__") (hdb : (x == ("__debug__" : Str)) = false)
    (he : starEach (e :: es) X.env = (false, eval e X.env) :: starEach es X.env) (hpl : (backTo pos (starEach es X.env)).any (·.1) = false) : EG X (.Call (.Name x p) (e :: es) [] pos) E O Ψ := fun σ H R Q q => we_of (pe_callB hc hg hm hv WA.pa hn hdb he hpl) (by
  refine ha σ H R _ fun vs H1 rs1 O1 ⟨e1, e2⟩ s1 z1 => ?_
  subst e1; subst e2
  exact h vs H1 s1.ok z1 Q fun v H' r O' f s z => q v H' r O' f (s1.trans s) z)
theorem g_ct {id : String} {x : Str} {p : Pos} {rr : List V → Hp → VK → Prop} {rs : List SV} {Ψ : SV → Own → Prop} (hc : CallR X (.type id) rr) (hg : Gl X x) (hm : X.mg x = none) (hv : bootBuiltins x = some (.type id)) (ha : EA X (e :: es) E O rs)
    (h : ∀ vs H, OwnOk X.K O H → SVs X.K (vis O H) vs rs → ∀ Q, Kont X.K O H Ψ Q → rr vs H Q) (hn : x ≠ "__name__") (hdb : (x == ("__debug__" : Str)) = false)
    (he : starEach (e :: es) X.env = (false, eval e X.env) :: starEach es X.env) (hpl : (backTo pos (starEach es X.env)).any (·.1) = false) : EG X (.Call (.Name x p) (e :: es) [] pos) E O Ψ := fun σ H R Q q => we_of (pe_callTy hc hg hm hv WA.pa hn hdb he hpl) (by
  refine ha σ H R _ fun vs H1 rs1 O1 ⟨e1, e2⟩ s1 z1 => ?_
  subst e1; subst e2
  exact h vs H1 s1.ok z1 Q fun v H' r O' f s z => q v H' r O' f (s1.trans s) z)
end
end Py
namespace Py
open PySem PySem.Spec PyProof.Rows L2

/-! ### own objects: made, changed, let go -/
def setO (O : Own) (p : Addr) (o : OO) : Own := O.map fun q => if q.1 = p then (p, o) else q
theorem setO_keys (O : Own) (p : Addr) (o : OO) : (setO O p o).map (·.1) = O.map (·.1) := by
  unfold setO
  rw [List.map_map]
  apply List.map_congr_left
  intro q _
  show (if q.1 = p then (p, o) else q).1 = q.1
  split
  · next h => exact h.symm
  · rfl
section
variable {K : PySem.W.Frag} {O O1 O2 : Own} {H H1 H2 : Hp} {p : Addr} {o : OO} {ho : HO}
theorem Stp.own (ok : OwnOk K O H) (hp : H p = none) (is : ObjIs K (Py.vis ((p, o) :: O) (upd H p ho)) (upd H p ho) p o) : Stp K O H ((p, o) :: O) (upd H p ho) := by
  have k : ∀ a o', H a = some o' → upd H p ho a = some o' := fun a o' e => by rw [upd_ne (ne_of_none e hp)]; exact e
  refine ⟨fun a o' _ e => k a o' e, fun a z => ?_, fun a e => ?_, ?_, fun q hq => ?_⟩
  · rcases List.mem_cons.mp z with z | z
    · rw [show a = p from z]
      exact .inr hp
    · exact .inl z
  · by_cases ha : a = p
    · rw [ha]
      exact hp
    · rw [upd_ne ha] at e
      exact e
  · show (p :: O.map (·.1)).Nodup
    exact List.nodup_cons.mpr ⟨ok.fresh hp, ok.nd⟩
  · rcases List.mem_cons.mp hq with rfl | hq
    · exact is
    · obtain ⟨u, e⟩ := (ok.is q hq).some
      refine (ok.is q hq).sub (fun a o' z => ?_) (by rw [upd_ne (ne_of_none e hp)]) (fun dx z => k _ _ z)
      obtain ⟨z1, z2⟩ := vis_some z
      refine vis_of (fun z => ?_) (k _ _ z2)
      rcases List.mem_cons.mp z with z | z
      · rw [show a = p from z, hp] at z2
        cases z2
      · exact z1 z
theorem vis_put (hp : p ∈ O.map (·.1)) : vis (setO O p o) (upd H p ho) = vis O H := by
  funext a
  unfold vis
  rw [setO_keys]
  by_cases ha : a ∈ O.map (·.1)
  · rw [if_pos ha, if_pos ha]
  · rw [if_neg ha, if_neg ha, upd_ne (fun e => ha (by rw [e]; exact hp))]
theorem Stp.put (ok : OwnOk K O H) (hp : p ∈ O.map (·.1)) (nw : ∀ x, H p ≠ some (.own x)) (is : ObjIs K (Py.vis O H) (upd H p ho) p o) : Stp K O H (setO O p o) (upd H p ho) := by
  refine ⟨fun a o' n e => by rw [upd_ne (fun z => n (by rw [z]; exact hp))]; exact e, fun a z => by rw [setO_keys] at z; exact .inl z, fun a e => ?_, by rw [setO_keys]; exact ok.nd, fun q hq => ?_⟩
  · by_cases ha : a = p
    · subst ha
      rw [upd_same] at e
      cases e
    · rw [upd_ne ha] at e
      exact e
  · rw [vis_put hp]
    obtain ⟨q0, hq0, e⟩ := List.mem_map.mp (show q ∈ O.map _ from hq)
    by_cases hk : q0.1 = p
    · rw [if_pos hk] at e
      subst e
      exact is
    · rw [if_neg hk] at e
      subst e
      refine (ok.is q0 hq0).sub (Sub.refl _) (upd_ne hk) fun dx z => ?_
      rw [upd_ne (fun e => nw q0.1 (by rw [← e]; exact z))]
      exact z
theorem Stp.pop (ok : OwnOk K ((p, o) :: O) H) : Stp K ((p, o) :: O) H O H := by
  refine ⟨fun _ _ _ e => e, fun a z => .inl (List.mem_cons_of_mem _ z), fun _ e => e, (List.nodup_cons.mp ok.nd).2, fun q hq => ?_⟩
  refine (ok.is q (List.mem_cons_of_mem _ hq)).sub (fun a o' z => ?_) rfl (fun _ z => z)
  obtain ⟨z1, z2⟩ := vis_some z
  exact vis_of (fun z => z1 (List.mem_cons_of_mem _ z)) z2
theorem OwnOk.popL {ds : List PyData} (ok : OwnOk K ((p, .lst ds) :: O) H) : SVr K (vis O H) (.ref p) (vL ds) := by
  obtain ⟨vs, h1, h2⟩ := ok.is (p, .lst ds) List.mem_cons_self
  exact .lst (vis_of (List.nodup_cons.mp ok.nd).1 h1) (dpAll_sub (Stp.pop ok).vis _ _ h2)
theorem setO_head {o' : OO} (h : p ∉ O.map (·.1)) : setO ((p, o) :: O) p o' = (p, o') :: O := by
  unfold setO
  rw [List.map_cons, if_pos rfl]
  congr 1
  conv => rhs; rw [← List.map_id O]
  apply List.map_congr_left
  intro q hq
  have : q.1 ≠ p := fun e => h (e ▸ List.mem_map_of_mem hq)
  rw [if_neg this]
  rfl
/-- any own object let go -/
def dropO (O : Own) (p : Addr) : Own := O.filter fun q => !(q.1 == p)
theorem dropO_mem {q : Addr × OO} : q ∈ dropO O p ↔ q ∈ O ∧ q.1 ≠ p := by
  unfold dropO
  rw [List.mem_filter]
  simp
theorem dropO_keys {a : Addr} : a ∈ (dropO O p).map (·.1) ↔ a ∈ O.map (·.1) ∧ a ≠ p := by
  constructor
  · intro h
    obtain ⟨q, hq, rfl⟩ := List.mem_map.mp h
    obtain ⟨h1, h2⟩ := dropO_mem.mp hq
    exact ⟨List.mem_map_of_mem h1, h2⟩
  · rintro ⟨h, n⟩
    obtain ⟨q, hq, rfl⟩ := List.mem_map.mp h
    exact List.mem_map_of_mem (dropO_mem.mpr ⟨hq, n⟩)
theorem Stp.drop (ok : OwnOk K O H) (p : Addr) : Stp K O H (dropO O p) H := by
  refine ⟨fun _ _ _ e => e, fun a z => .inl (dropO_keys.mp z).1, fun _ e => e, ?_, fun q hq => ?_⟩
  · exact ok.nd.sublist (List.filter_sublist.map _)
  · refine (ok.is q (dropO_mem.mp hq).1).sub (fun a o' z => ?_) rfl (fun _ z => z)
    obtain ⟨z1, z2⟩ := vis_some z
    exact vis_of (fun z => z1 (dropO_keys.mp z).1) z2
theorem OwnOk.dropL {ds : List PyData} (ok : OwnOk K O H) (h : (p, .lst ds) ∈ O) : SVr K (vis (dropO O p) H) (.ref p) (vL ds) := by
  obtain ⟨vs, h1, h2⟩ := ok.is _ h
  exact .lst (vis_of (fun z => (dropO_keys.mp z).2 rfl) h1) (dpAll_sub (Stp.drop ok p).vis _ _ h2)
end

/-! ### targets -/
def WG (X : Cx) (tg : Expr) : TG := fun v σ H Q => ∀ pins s u, Inv X pins σ H s → RelV v u → wpAny (model X.prog X.w) X.A (assign tg X.env u) (fun _ s' => ∃ σ' H', Inv X pins σ' H' s' ∧ Q σ' H') X.xe s
theorem WG.pg {X : Cx} {tg : Expr} : PG X tg (WG X tg) := ⟨fun pins s _ _ v u _ I r h => h pins s u I r⟩
theorem wg_of {X : Cx} {tg : Expr} {t : TG} {v : V} {σ : L2.St} {H : Hp} {Q : L2.St → Hp → Prop} (p : PG X tg t) (h : t v σ H Q) : WG X tg v σ H Q := fun pins s u I r => p.run pins s σ H v u Q I r h
def WGs (X : Cx) (ts : List Expr) : TGs := fun vs σ H Q => ∀ pins s us, Inv X pins σ H s → Vals vs us → wpAny (model X.prog X.w) X.A (assignInOrder ((assignEach ts X.env).map (·.2)) us) (fun _ s' => ∃ σ' H', Inv X pins σ' H' s' ∧ Q σ' H') X.xe s
theorem WGs.pgs {X : Cx} {ts : List Expr} : PGs X ts (WGs X ts) := ⟨fun pins s _ _ vs us _ I r h => h pins s us I r⟩
theorem wgs_of {X : Cx} {ts : List Expr} {t : TGs} {vs : List V} {σ : L2.St} {H : Hp} {Q : L2.St → Hp → Prop} (p : PGs X ts t) (h : t vs σ H Q) : WGs X ts vs σ H Q := fun pins s us I r => p.run pins s σ H vs us Q I r h
/-- σ' is σ but at ixs -/
def But (ixs : List Nat) (σ σ' : L2.St) : Prop := σ'.length = σ.length ∧ ∀ j : Nat, j ∉ ixs → σ'[j]? = σ[j]?
def TGr (X : Cx) (tg : Expr) (ixs : List Nat) (r : SV) (E E' : En) : Prop := ∀ v σ O H, Rep X.K E O σ H → SVr X.K (vis O H) v r → ∀ Q : L2.St → Hp → Prop, (∀ σ', Rep X.K E' O σ' H → But ixs σ σ' → Q σ' H) → WG X tg v σ H Q
def TGrs (X : Cx) (ts : List Expr) (ixs : List Nat) (ds : List PyData) (E E' : En) : Prop := ∀ vs σ O H, Rep X.K E O σ H → DqAll (vis O H) vs ds → ∀ Q : L2.St → Hp → Prop, (∀ σ', Rep X.K E' O σ' H → But ixs σ σ' → Q σ' H) → WGs X ts vs σ H Q
section
variable {X : Cx} {E E' E'' : En} {pos : Pos} {r : SV}
theorem But.refl (ixs : List Nat) (σ : L2.St) : But ixs σ σ := ⟨rfl, fun _ _ => rfl⟩
theorem But.trans {ixs jxs : List Nat} {σ σ' σ'' : L2.St} (a : But ixs σ σ') (b : But jxs σ' σ'') : But (ixs ++ jxs) σ σ'' := ⟨b.1.trans a.1, fun j h => (b.2 j fun z => h (List.mem_append_right _ z)).trans (a.2 j fun z => h (List.mem_append_left _ z))⟩
theorem But.set (i : Nat) (σ : L2.St) (v : Option V) : But [i] σ (σ.set i v) := ⟨List.length_set, fun j h => List.getElem?_set_ne (fun e => h (by simp [e]))⟩
theorem tg_name (i : Nat) {x : Str} (hN : X.N.Nodup) (hi : X.N[i]? = some x := by rfl) (hx : Loc X.env.scope x := by first | exact Or.inl rfl | exact Or.inr rfl) (hf : X.fn x = true ∨ X.env.scope.names.lookup x = some .local := by first | exact .inl rfl | exact .inr rfl | assumption) : TGr X (.Name x pos) [i] r E (E.set i (some r)) :=
  fun v σ O H R z Q q => wg_of (pg_name hN hi hx hf) (q _ (R.set i z) (.set i σ _))
theorem tgs_nil : TGrs X [] [] [] E E := fun vs σ O H R z Q q => wgs_of pgs_nil (by
  cases z
  exact ⟨rfl, q σ R (.refl _ _)⟩)
theorem tgs_cons {e : Expr} {es : List Expr} {ixs jxs : List Nat} {d : PyData} {ds : List PyData} (h1 : TGr X e ixs (.d d) E E') (h2 : TGrs X es jxs ds E' E'')
    (hs : (assignEach (e :: es) X.env).map (·.2) = assign e X.env :: (assignEach es X.env).map (·.2) := by rfl) : TGrs X (e :: es) (ixs ++ jxs) (d :: ds) E E'' := fun vs σ O H R z Q q => wgs_of (pgs_cons WG.pg WGs.pgs hs) (by
  cases z with
  | cons z zs =>
    refine ⟨_, _, rfl, h1 _ σ O H R z _ fun σ1 R1 b1 => ?_⟩
    exact h2 _ σ1 O H R1 zs _ fun σ2 R2 b2 => q σ2 R2 (b1.trans b2))
theorem tg_tup {es : List Expr} {k : Nat} {ixs : List Nat} {ds : List PyData} (hc : X.calm = true) (h : TGrs X es ixs ds E E')
    (hn : (assignEach es X.env).length = ds.length := by rfl) (hst : (assignEach es X.env).findIdx? (·.1) = none := by rfl) : TGr X (.Tuple es k pos) ixs (vT ds) E E' := fun v σ O H R z Q q => wg_of (pg_tup (n := ds.length) hc WGs.pgs hn hst) (by
  obtain ⟨a, vs, e1, h1, h2⟩ := tup_of z
  exact ⟨a, vs, e1, SqT.of (vis_sub _ _ _ _ h1), dpa_len h2, h vs σ O H R h2 Q q⟩)
theorem TGr.to {tg : Expr} {ixs : List Nat} (h : TGr X tg ixs r E E') (e : E' = E'') : TGr X tg ixs r E E'' := by
  subst e
  exact h
end

/-! ### statements -/
structure PD where
  nx : En → Own → Prop
  rt : SV → Own → Prop
  bk : En → Own → Prop := fun _ _ => False
  ct : En → Own → Prop := fun _ _ => False
structure Ref (K : PySem.W.Frag) (O : Own) (H : Hp) (D : PD) (D' : Ends) : Prop where
  nx : ∀ σ' H' E' O', D.nx E' O' → Stp K O H O' H' → Rep K E' O' σ' H' → D'.nx σ' H'
  rt : ∀ v H' r O', D.rt r O' → Stp K O H O' H' → SVr K (vis O' H') v r → D'.rt v H'
  bk : ∀ σ' H' E' O', D.bk E' O' → Stp K O H O' H' → Rep K E' O' σ' H' → D'.bk σ' H'
  ct : ∀ σ' H' E' O', D.ct E' O' → Stp K O H O' H' → Rep K E' O' σ' H' → D'.ct σ' H'
theorem Ref.step {K : PySem.W.Frag} {O O1 : Own} {H H1 : Hp} {D : PD} {D' : Ends} (r : Ref K O H D D') (s : Stp K O H O1 H1) : Ref K O1 H1 D D' :=
  ⟨fun σ' H' E' O' h q => r.nx σ' H' E' O' h (s.trans q), fun v H' r' O' h q => r.rt v H' r' O' h (s.trans q), fun σ' H' E' O' h q => r.bk σ' H' E' O' h (s.trans q), fun σ' H' E' O' h q => r.ct σ' H' E' O' h (s.trans q)⟩
def SG (X : Cx) (st : Stmt) (E : En) (O : Own) (D : PD) : Prop := ∀ σ H, Rep X.K E O σ H → ∀ D', Ref X.K O H D D' → WS X st D' σ H
def SB (X : Cx) (sts : List Stmt) (E : En) (O : Own) (D : PD) : Prop := ∀ σ H, Rep X.K E O σ H → ∀ D', Ref X.K O H D D' → WSs X sts D' σ H
section
variable {X : Cx} {a b c e : Expr} {st : Stmt} {sts as bs : List Stmt} {E : En} {O : Own} {D : PD} {pos : Pos}
theorem sb_nil (h : D.nx E O) : SB X [] E O D := fun σ H R D' r => wss_of pss_nil (r.nx σ H E O h (.refl R.own) R)
theorem sb_cons (h : SG X st E O { D with nx := fun E' O' => SB X sts E' O' D }) : SB X (st :: sts) E O D := fun σ H R D' r => wss_of (pss_cons WS.ps WSs.pss)
  (h σ H R { D' with nx := WSs X sts D' } ⟨fun σ' H' E' O' hb s R' => hb σ' H' R' D' (r.step s), r.rt, r.bk, r.ct⟩)
theorem s_setG (i : Nat) {x : Str} {pos' : Pos} {Φ : SV → Own → Prop} (hN : X.N.Nodup) (he : EG X e E O Φ) (h : ∀ r O', Φ r O' → D.nx (E.set i (some r)) O') (hi : X.N[i]? = some x := by rfl) (hx : Loc X.env.scope x := by first | exact Or.inl rfl | exact Or.inr rfl)
    (hs : swapsWith e (some (.Name x pos')) pos.line X.env = pure false := by rfl) (hf : X.fn x = true ∨ X.env.scope.names.lookup x = some .local := by first | exact .inl rfl | exact .inr rfl | assumption) : SG X (.Assign [.Name x pos'] e pos) E O D := fun σ H R D' r => ws_of (ps_set hN hi hx WE.pe hs hf) (by
  refine he σ H R _ fun v H1 r1 O1 f s z => ?_
  exact r.nx _ H1 _ O1 (h r1 O1 f) s ((R.step s).set i z))
theorem s_set (i : Nat) {x : Str} {pos' : Pos} {r : SV} (hN : X.N.Nodup) (he : EX X e E O r) (h : D.nx (E.set i (some r)) O) (hi : X.N[i]? = some x := by rfl) (hx : Loc X.env.scope x := by first | exact Or.inl rfl | exact Or.inr rfl)
    (hs : swapsWith e (some (.Name x pos')) pos.line X.env = pure false := by rfl) (hf : X.fn x = true ∨ X.env.scope.names.lookup x = some .local := by first | exact .inl rfl | exact .inr rfl | assumption) : SG X (.Assign [.Name x pos'] e pos) E O D :=
  s_setG i hN he (fun r' O' ⟨e1, e2⟩ => by subst e1; subst e2; exact h) hi hx hs hf
/-- name = [..] new and one's own -/
theorem s_asg {tg : Expr} {ixs : List Nat} {E' : En} {r : SV} (he : EX X e E O r) (hg : TGr X tg ixs r E E') (h : D.nx E' O) (hs : swapsWithSole [tg] e pos.line X.env = pure false := by rfl) (hw : swappedStores [tg] e X.env = pure none := by rfl)
    (h1 : (assignEach [tg] X.env).map (·.2) = [assign tg X.env] := by rfl) : SG X (.Assign [tg] e pos) E O D := fun σ H R D' rf => ws_of (ps_asg WE.pe WG.pg hs hw h1) (by
  refine he σ H R _ fun v H1 r1 O1 ⟨e1, e2⟩ s z => ?_
  subst e1; subst e2
  exact hg v σ _ H1 (R.step s) z _ fun σ' R' _ => rf.nx σ' H1 _ _ h s R')
theorem s_par (i j : Nat) {x y : Str} {px py pt pt2 : Pos} {kt k2 : Nat} {r1 r2 : SV} (hc : X.calm = true) (hN : X.N.Nodup) (ha : EX X a E O r1) (hb : EX X b E O r2) (h : D.nx ((E.set i (some r1)).set j (some r2)) O)
    (q : PS X (.Assign [.Tuple [.Name x px, .Name y py] kt pt] (.Tuple [a, b] k2 pt2) pos) (tPar i j (WA X [a, b]))) (hs : starEach [a, b] X.env = (false, eval a X.env) :: starEach [b] X.env := by rfl) (hs2 : starEach [b] X.env = (false, eval b X.env) :: starEach [] X.env := by rfl) :
    SG X (.Assign [.Tuple [.Name x px, .Name y py] kt pt] (.Tuple [a, b] k2 pt2) pos) E O D := fun σ H R D' rf => ws_of q (by
  refine (a_cons ha (a_cons hb a_nil hs2) hs : EA X [a, b] E O [r1, r2]) σ H R _ fun vs H1 rs O1 ⟨e1, e2⟩ s z => ?_
  subst e1; subst e2
  cases z with
  | cons z1 z =>
    cases z with
    | cons z2 z =>
      cases z
      exact ⟨_, _, rfl, rf.nx _ H1 _ _ h s (((R.step s).set i z1).set j z2)⟩)
theorem s_retG {Φ : SV → Own → Prop} (he : EG X e E O Φ) (h : ∀ r O', Φ r O' → D.rt r O') : SG X (.Return (some e) pos) E O D := fun σ H R D' r => ws_of (ps_ret WE.pe) (by
  refine he σ H R _ fun v H1 r1 O1 f s z => ?_
  exact r.rt v H1 r1 O1 (h r1 O1 f) s z)
theorem s_ret {r : SV} (he : EX X e E O r) (h : D.rt r O) : SG X (.Return (some e) pos) E O D := s_retG he (fun r' O' ⟨e1, e2⟩ => by subst e1; subst e2; exact h)
theorem s_retN (h : D.rt vN O) : SG X (.Return none pos) E O D := fun σ H R D' r => ws_of ps_retN (r.rt .non H vN O h (.refl R.own) .non)
theorem s_exprG {Φ : SV → Own → Prop} (he : EG X e E O Φ) (h : ∀ r O', Φ r O' → D.nx E O') (hs : swapsWith e none pos.line X.env = pure false := by rfl) : SG X (.Expr e pos) E O D := fun σ H R D' r => ws_of (ps_expr WE.pe hs) (by
  refine he σ H R _ fun v H1 r1 O1 f s z => ?_
  exact r.nx σ H1 E O1 (h r1 O1 f) s (R.step s))
theorem s_ifG {Φ : Bool → Own → Prop} (hc : TQ X c E O Φ) (h : ∀ k O', Φ k O' → (k = true → SB X as E O' D) ∧ (k = false → SB X bs E O' D)) : SG X (.If c as bs pos) E O D := fun σ H R D' r => ws_of (ps_if WT.pt WSs.pss WSs.pss) (by
  refine hc σ H R _ fun k H1 O1 f s => ?_
  cases k with
  | true =>
    rw [if_pos rfl]
    exact (h true O1 f).1 rfl σ H1 (R.step s) D' (r.step s)
  | false =>
    rw [if_neg Bool.false_ne_true]
    exact (h false O1 f).2 rfl σ H1 (R.step s) D' (r.step s))
theorem s_if {k : Bool} (hc : ET X c E O k) (h1 : k = true → SB X as E O D) (h2 : k = false → SB X bs E O D) : SG X (.If c as bs pos) E O D := s_ifG hc fun k' O' ⟨e1, e2⟩ => by
  subst e1; subst e2
  exact ⟨h1, h2⟩
theorem s_pass (h : D.nx E O) : SG X (.Pass pos) E O D := fun σ H R D' r => ws_of ps_pass (r.nx σ H E O h (.refl R.own) R)
theorem s_break (h : D.bk E O) : SG X (.Break pos) E O D := fun σ H R D' r => ws_of ps_break (r.bk σ H E O h (.refl R.own) R)
theorem s_cont (h : D.ct E O) : SG X (.Continue pos) E O D := fun σ H R D' r => ws_of ps_continue (r.ct σ H E O h (.refl R.own) R)
theorem s_while {body : List Stmt} (W : Nat → En → Own → Prop) (m0 : Nat) (h0 : W m0 E O)
    (hs : ∀ m E' O', W m E' O' → ∃ k, ET X c E' O' k ∧ (k = true → SB X body E' O' ⟨fun E2 O2 => ∃ m', m' < m ∧ W m' E2 O2, D.rt, D.nx, fun E2 O2 => ∃ m', m' < m ∧ W m' E2 O2⟩) ∧ (k = false → D.nx E' O'))
    (hp : PassesOwn (model X.prog X.w) X.A X.env X.xe := by exact PassesOwn.never) : SG X (.While c body [] pos) E O D := fun σ H R D' r => ws_of (ps_while hp WT.pt WSs.pss) (by
  refine ⟨fun m σ' H' => ∃ E' O', W m E' O' ∧ Stp X.K O H O' H' ∧ Rep X.K E' O' σ' H', ⟨m0, E, O, h0, .refl R.own, R⟩, ?_⟩
  rintro m σ' H' ⟨E', O', w, s, R'⟩
  obtain ⟨k, hc, ht, hf⟩ := hs m E' O' w
  refine hc σ' H' R' _ fun k' H1 O1 ⟨e1, e2⟩ s1 => ?_
  subst e1; subst e2
  cases k' with
  | true =>
    rw [if_pos rfl]
    refine ⟨fun σ2 H2 => ∃ m', m' < m ∧ ∃ E2 O2, W m' E2 O2 ∧ Stp X.K O H O2 H2 ∧ Rep X.K E2 O2 σ2 H2, fun σ2 H2 z => z, ?_⟩
    have s2 := s.trans s1
    refine ht rfl σ' H1 (R'.step s1) _ ⟨?_, ?_, ?_, ?_⟩
    · rintro σ2 H2 E2 O2 ⟨m', hm, w2⟩ s3 R2
      exact ⟨m', hm, E2, O2, w2, s2.trans s3, R2⟩
    · intro v H2 r2 O2 z s3 z2
      exact r.rt v H2 r2 O2 z (s2.trans s3) z2
    · intro σ2 H2 E2 O2 z s3 R2
      exact r.nx σ2 H2 E2 O2 z (s2.trans s3) R2
    · rintro σ2 H2 E2 O2 ⟨m', hm, w2⟩ s3 R2
      exact ⟨m', hm, E2, O2, w2, s2.trans s3, R2⟩
  | false =>
    rw [if_neg Bool.false_ne_true]
    exact r.nx σ' H1 _ _ (hf rfl) (s.trans s1) (R'.step s1))
end

/-! ### what is walked -/
structure Yields {α : Type} (K : PySem.W.Frag) (J : It) (O : Own) (H0 : Hp) (xs : List α) (g : α → SV) : Prop where
  go : ∀ i O' H, Stp K O H0 O' H → i < xs.length → J.go i H
  yld : ∀ i O' H x H', Stp K O H0 O' H → (hi : i < xs.length) → J.yld i H x H' → Stp K O' H O' H' ∧ SVr K (vis O' H') x (g xs[i])
  stop : ∀ O' H, Stp K O H0 O' H → J.stop xs.length H
def IT {α : Type} (X : Cx) (tg iter : Expr) (E : En) (O : Own) (xs : List α) (g : α → SV) : Prop :=
  ∃ wi, PI X tg iter wi ∧ ∀ σ H, Rep X.K E O σ H → ∀ R : It → Hp → Prop, (∀ J H', Stp X.K O H O H' → Yields X.K J O H' xs g → R J H') → wi σ H R
section
variable {X : Cx} {tg iter a b e : Expr} {E : En} {O : Own} {pos : Pos} {α : Type}
theorem it_list {ds : List PyData} (h : EX X iter E O (vL ds)) : IT X tg iter E O ds SV.d := ⟨_, pi_list WE.pe, fun σ H R Q q => by
  refine h σ H R _ fun v H1 r O1 ⟨e1, e2⟩ s z => ?_
  subst e1; subst e2
  obtain ⟨p, vs, rfl, h1, h2⟩ := lst_of z
  have hl := dpa_len h2
  refine ⟨p, rfl, ⟨vs, SqL.of (vis_sub _ _ _ _ h1)⟩, q _ H1 s ⟨fun i O' H' s1 hi => ?_, fun i O' H' x H2 s1 hi y => ?_, fun O' H' s1 => ?_⟩⟩
  · exact ⟨vs, vs[i]'(by omega), SqL.of (vis_sub _ _ _ _ (s1.vis _ _ h1)), List.getElem?_eq_getElem _⟩
  · obtain ⟨rfl, y⟩ := y
    have hv := y vs (SqL.of (vis_sub _ _ _ _ (s1.vis _ _ h1)))
    obtain ⟨d, h3, h4⟩ := dpa_atV h2 hv
    rw [List.getElem?_eq_getElem hi] at h3
    cases h3
    exact ⟨.refl s1.ok, dp_sub s1.vis _ _ h4⟩
  · exact ⟨vs, SqL.of (vis_sub _ _ _ _ (s1.vis _ _ h1)), by omega⟩⟩
theorem it_tup {ds : List PyData} (h : EX X iter E O (vT ds)) : IT X tg iter E O ds SV.d := ⟨_, pi_tup WE.pe, fun σ H R Q q => by
  refine h σ H R _ fun v H1 r O1 ⟨e1, e2⟩ s z => ?_
  subst e1; subst e2
  obtain ⟨p, vs, rfl, h1, h2⟩ := tup_of z
  have hl := dpa_len h2
  refine ⟨p, rfl, ⟨vs, SqT.of (vis_sub _ _ _ _ h1)⟩, q _ H1 s ⟨fun i O' H' s1 hi => ?_, fun i O' H' x H2 s1 hi y => ?_, fun O' H' s1 => ?_⟩⟩
  · exact ⟨vs, vs[i]'(by omega), SqT.of (vis_sub _ _ _ _ (s1.vis _ _ h1)), List.getElem?_eq_getElem _⟩
  · obtain ⟨rfl, y⟩ := y
    have hv := y vs (SqT.of (vis_sub _ _ _ _ (s1.vis _ _ h1)))
    obtain ⟨d, h3, h4⟩ := dpa_atV h2 hv
    rw [List.getElem?_eq_getElem hi] at h3
    cases h3
    exact ⟨.refl s1.ok, dp_sub s1.vis _ _ h4⟩
  · exact ⟨vs, SqT.of (vis_sub _ _ _ _ (s1.vis _ _ h1)), by omega⟩⟩
theorem IT.as {β : Type} {xs : List α} {g : α → SV} {ys : List β} {k : β → SV} (h : IT X tg iter E O xs g) (e : xs.map g = ys.map k) : IT X tg iter E O ys k := by
  obtain ⟨wi, p, q⟩ := h
  refine ⟨wi, p, fun σ H R Q z => q σ H R Q fun J H' s y => z J H' s ?_⟩
  have hl : xs.length = ys.length := by
    have := congrArg List.length e
    simpa using this
  refine ⟨fun i O' H s hi => y.go i O' H s (by omega), fun i O' H x H' s hi w => ?_, fun O' H s => hl ▸ y.stop O' H s⟩
  obtain ⟨w1, w2⟩ := y.yld i O' H x H' s (by omega) w
  refine ⟨w1, ?_⟩
  have e1 : g (xs[i]'(by omega)) = k ys[i] := by
    have h1 : (xs.map g)[i]? = some (g (xs[i]'(by omega))) := by rw [List.getElem?_map, List.getElem?_eq_getElem (by omega)]; rfl
    have h2 : (ys.map k)[i]? = some (k ys[i]) := by rw [List.getElem?_map, List.getElem?_eq_getElem hi]; rfl
    rw [e, h2] at h1
    exact (Option.some.inj h1).symm
  rw [← e1]
  exact w2
theorem yields_range {K : PySem.W.Frag} {H : Hp} {lo : Int} {n : Nat} : Yields K (Itr lo n) O H (List.range n) (fun i => vI (lo + (i : Int))) :=
  ⟨fun i _ _ _ hi => by show i < n; simpa using hi, fun i O' H x H' s hi y => by
    obtain ⟨rfl, rfl⟩ := y
    refine ⟨.refl s.ok, ?_⟩
    rw [List.getElem_range]
    exact .int _, fun _ _ _ => by show n ≤ (List.range n).length; simp⟩
theorem it_range1 {n : Int} {p : Pos} (hg : Gl X "range") (hm : X.mg "range" = none) (h : EX X a E O (vI n)) (hb : -(2 ^ 62) ≤ n ∧ n < 2 ^ 62) (hs : starEach [a] X.env = [(false, eval a X.env)] := by rfl) : IT X tg (.Call (.Name "range" p) [a] [] pos) E O (List.range n.toNat) (fun i => vI (i : Int)) :=
  IT.as (xs := List.range n.toNat) (g := fun i => vI (0 + (i : Int))) ⟨_, pi_range1 hg hm WA.pa hs, fun σ H R Q q => by
    refine (a_cons h a_nil hs : EA X [a] E O [vI n]) σ H R _ fun vs H1 rs O1 ⟨e1, e2⟩ s z => ?_
    subst e1; subst e2
    cases z with
    | cons z1 z =>
      cases z
      exact ⟨n, by rw [int_of z1], hb.1, hb.2, q _ H1 s yields_range⟩⟩ (by simp)
theorem it_range2 {lo n : Int} {p : Pos} (hg : Gl X "range") (hm : X.mg "range" = none) (h1 : EX X a E O (vI lo)) (h2 : EX X b E O (vI n)) (hb : (-(2 ^ 62) ≤ lo ∧ lo < 2 ^ 62) ∧ -(2 ^ 62) ≤ n ∧ n < 2 ^ 62)
    (hs : starEach [a, b] X.env = [(false, eval a X.env), (false, eval b X.env)] := by rfl) (hs2 : starEach [b] X.env = [(false, eval b X.env)] := by rfl) : IT X tg (.Call (.Name "range" p) [a, b] [] pos) E O (List.range (n - lo).toNat) (fun i => vI (lo + (i : Int))) :=
  ⟨_, pi_range2 hg hm WA.pa hs hs2, fun σ H R Q q => by
    refine (a_cons h1 (a_cons h2 a_nil hs2) (by rw [hs, hs2]) : EA X [a, b] E O [vI lo, vI n]) σ H R _ fun vs H1 rs O1 ⟨e1, e2⟩ s z => ?_
    subst e1; subst e2
    cases z with
    | cons z1 z =>
      cases z with
      | cons z2 z =>
        cases z
        exact ⟨lo, n, by rw [int_of z1, int_of z2], ⟨hb.1.1, hb.1.2, hb.2.1, hb.2.2⟩, q _ H1 s yields_range⟩⟩
theorem s_for {body : List Stmt} {D : PD} {xs : List α} {g : α → SV} (hi : IT X tg iter E O xs g) (Pv : Nat → En → Own → Prop) (h0 : Pv 0 E O)
    (hs : ∀ (i : Nat) (E' : En) (O' : Own) (hi : i < xs.length), Pv i E' O' → ∃ E2 ixs, TGr X tg ixs (g xs[i]) E' E2 ∧ SB X body E2 O' ⟨Pv (i + 1), D.rt, D.nx, Pv (i + 1)⟩) (hd : ∀ E' O', Pv xs.length E' O' → D.nx E' O')
    (hc : X.calm = true := by rfl) (hp : PassesOwn (model X.prog X.w) X.A X.env X.xe := by exact PassesOwn.never) (hf : ∀ x, foldedSetIterable iter X.env x = pure x := by intro _; rfl) : SG X (.For tg iter body [] pos) E O D := fun σ H R D' r => by
  obtain ⟨wi, p, q⟩ := hi
  refine ws_of (ps_for hp hc p WG.pg WSs.pss hf) ?_
  refine q σ H R _ fun J H1 s1 y => ?_
  refine ⟨fun i m σ' H' => m = xs.length - i ∧ i ≤ xs.length ∧ ∃ E' O', Pv i E' O' ∧ Stp X.K O H1 O' H' ∧ Rep X.K E' O' σ' H', ⟨xs.length, by simp, Nat.zero_le _, E, O, h0, .refl s1.ok, R.step s1⟩, ?_⟩
  rintro i m σ' H' ⟨rfl, hi, E', O', pv, s, R'⟩
  by_cases hlt : i < xs.length
  · refine .inr ⟨y.go i O' H' s hlt, fun σ2 H2 => ∃ E2 O2, Pv (i + 1) E2 O2 ∧ Stp X.K O H1 O2 H2 ∧ Rep X.K E2 O2 σ2 H2, fun σ2 H2 ⟨E2, O2, z1, z2, z3⟩ => ⟨xs.length - (i + 1), by omega, rfl, hlt, E2, O2, z1, z2, z3⟩, fun x H2 yy => ?_⟩
    obtain ⟨s2, z⟩ := y.yld i O' H' x H2 s hlt yy
    obtain ⟨E2, ixs, ht, hb⟩ := hs i E' O' hlt pv
    refine ht x σ' O' H2 (R'.step s2) z _ fun σ2 R2 _ => ?_
    have s3 := s.trans s2
    refine hb σ2 H2 R2 _ ⟨?_, ?_, ?_, ?_⟩
    · intro σ3 H3 E3 O3 z3 s4 R3
      exact ⟨E3, O3, z3, s3.trans s4, R3⟩
    · intro v H3 r3 O3 z3 s4 z4
      exact r.rt v H3 r3 O3 z3 ((s1.trans s3).trans s4) z4
    · intro σ3 H3 E3 O3 z3 s4 R3
      exact r.nx σ3 H3 E3 O3 z3 ((s1.trans s3).trans s4) R3
    · intro σ3 H3 E3 O3 z3 s4 R3
      exact ⟨E3, O3, z3, s3.trans s4, R3⟩
  · have e : i = xs.length := by omega
    subst e
    exact .inl ⟨y.stop O' H' s, r.nx σ' H' E' O' (hd E' O' pv) (s1.trans s) R'⟩
end

/-! ### comprehensions -/
def wipeE (E : En) : List Nat → En
  | [] => E
  | v :: vs => (wipeE E vs).set v none
theorem wipe_but {σ σ' : L2.St} : ∀ {vs ixs : List Nat}, But ixs σ σ' → (∀ j ∈ ixs, j ∈ vs) → wipe σ' vs = wipe σ vs := fun {vs ixs} b h => by
  apply List.ext_getElem?
  intro j
  by_cases hj : j ∈ vs
  · have key : ∀ (s : L2.St) (vs : List Nat), j ∈ vs → (wipe s vs)[j]? = if j < s.length then some none else none := by
      intro s vs
      induction vs with
      | nil => intro h; cases h
      | cons v r ih =>
        intro h
        unfold wipe
        by_cases e : v = j
        · subst e
          by_cases hl : v < s.length
          · rw [List.getElem?_set_self (by rw [wipe_length]; exact hl), if_pos hl]
          · rw [List.getElem?_eq_none (by rw [List.length_set, wipe_length]; omega), if_neg hl]
        · rw [List.getElem?_set_ne e]
          exact ih ((List.mem_cons.mp h).resolve_left fun z => e z.symm)
    rw [key σ' vs hj, key σ vs hj, b.1]
  · rw [wipe_out hj, wipe_out hj, b.2 j fun z => hj (h j z)]
theorem wipe_wipe (σ : L2.St) (vs : List Nat) : wipe (wipe σ vs) vs = wipe σ vs := by
  have h : But vs σ (wipe σ vs) := ⟨wipe_length σ vs, fun j hj => wipe_out hj⟩
  exact wipe_but h fun _ z => z
theorem wipeE_length (E : En) : ∀ vs : List Nat, (wipeE E vs).length = E.length
  | [] => rfl
  | v :: vs => by unfold wipeE; rw [List.length_set, wipeE_length E vs]
theorem rep_wipe {K : PySem.W.Frag} {E : En} {O : Own} {σ : L2.St} {H : Hp} (R : Rep K E O σ H) : ∀ vs : List Nat, Rep K (wipeE E vs) O (wipe σ vs) H
  | [] => R
  | v :: vs => by
    have R' := rep_wipe R vs
    refine ⟨by unfold wipeE wipe; rw [List.length_set, List.length_set]; exact R'.len, R'.own, fun i r e => ?_⟩
    unfold wipeE at e
    unfold wipe
    by_cases hv : v = i
    · subst hv
      by_cases hl : v < (wipeE E vs).length
      · rw [List.getElem?_set_self hl] at e
        cases e
      · rw [List.getElem?_eq_none (by rw [List.length_set]; omega)] at e
        cases e
    · rw [List.getElem?_set_ne hv] at e ⊢
      exact R'.sl i r e
section
variable {X : Cx} {elt tg iter c : Expr} {ifs : List Expr} {scope : Scope} {own : List (Str × Nat)} {E : En} {O : Own} {pos : Pos} {α : Type}
abbrev Blk (X : Cx) (scope : Scope) (P : Cx → Prop) : Prop := ∀ (s : Shared) (H : Hp) (C : Addr) (cl : List (Str × Addr)) (fp : List Addr), P (X.blk s H scope (compEnvC scope cl C X.env) fp)
def WTs (X : Cx) (ifs : List Expr) : TT := fun σ H Q => ∀ pins s, Inv X pins σ H s → wpAny (model X.prog X.w) X.A (forIn ifs true fun c r => if r = true then do let ok ← isTrue c X.env (eval c X.env); pure (ForInStep.yield ok) else pure (ForInStep.yield r)) (TP X pins σ Q) X.xe s
theorem WTs.pts : PTs X ifs (WTs X ifs) := ⟨fun pins s _ _ _ I h => h pins s I⟩
def TS' (X : Cx) (ifs : List Expr) (E : En) (O : Own) (b : Bool) : Prop := ∀ σ H, Rep X.K E O σ H → ∀ Q : Bool → Hp → Prop, (∀ H', Stp X.K O H O H' → Q b H') → WTs X ifs σ H Q
theorem ts_nil : TS' X [] E O true := fun σ H R Q q => fun pins s I => (pts_nil : PTs X [] tYes).run pins s σ H Q I (q H (.refl R.own))
theorem ts_one {b : Bool} (h : ET X c E O b) : TS' X [c] E O b := fun σ H R Q q => fun pins s I => (pts_one (WT.pt (X := X) (e := c))).run pins s σ H Q I (h σ H R Q fun b' H' O' ⟨e1, e2⟩ s => by
  subst e1; subst e2
  exact q H' s)
/-- the reading of a comprehension -/
theorem lc_core {xs : List α} {g : α → SV} {wi : TI} {vs : List Nat} (ixs : List Nat) (E2 : α → En) (p : α → Bool) (f : α → PyData) (hx : ∀ j ∈ ixs, j ∈ vs) (hlen : xs.length ≤ 100000)
    (hw : ∀ σ H, Rep X.K E O σ H → ∀ R : It → Hp → Prop, (∀ J H', Stp X.K O H O H' → Yields X.K J O H' xs g → R J H') → wi σ H R)
    (htg : ∀ x ∈ xs, Blk X scope fun X' => TGr X' tg ixs (g x) (wipeE E vs) (E2 x))
    (hif : ∀ x ∈ xs, ∀ O', (∀ q ∈ O, q ∈ O') → Blk X scope fun X' => TS' X' ifs (E2 x) O' (p x))
    (hel : ∀ x ∈ xs, p x = true → ∀ O', (∀ q ∈ O, q ∈ O') → Blk X scope fun X' => EX X' elt (E2 x) O' (.d (f x)))
    {σ : L2.St} {H : Hp} (R : Rep X.K E O σ H) {Q : VK} (q : Kont X.K O H (is1 (vL ((xs.filter p).map f)) O) Q) :
    tLc wi (fun v σ H' Q => Blk X scope fun X' => WG X' tg v σ H' Q) (fun σ H' Q => Blk X scope fun X' => WTs X' ifs σ H' Q) (fun σ H' Q => Blk X scope fun X' => WE X' elt σ H' Q) vs σ H Q := by
  refine hw σ H R _ fun J H1 s1 y => fun D hD => ?_
  have own1 : Stp X.K O H1 ((D, .lst []) :: O) (upd H1 D (.lst [])) := Stp.own s1.ok hD ⟨[], upd_same, .nil⟩
  refine ⟨fun i m H' => m = xs.length - i ∧ i ≤ xs.length ∧ Stp X.K O H1 ((D, .lst (((xs.take i).filter p).map f)) :: O) H', ⟨xs.length, by simp, Nat.zero_le _, own1⟩, ?_⟩
  rintro i m H' ⟨rfl, hi, s⟩
  by_cases hlt : i < xs.length
  · refine .inr ⟨y.go i _ H' s hlt, fun H2 => Stp X.K O H1 ((D, .lst (((xs.take (i + 1)).filter p).map f)) :: O) H2, fun H2 z => ⟨xs.length - (i + 1), by omega, rfl, hlt, z⟩, fun x H2 yy => ?_⟩
    obtain ⟨s2, z⟩ := y.yld i _ H' x H2 s hlt yy
    have R2 : Rep X.K (wipeE E vs) ((D, .lst (((xs.take i).filter p).map f)) :: O) (wipe σ vs) H2 := (rep_wipe R vs).step ((s1.trans s).trans s2)
    have hm : xs[i] ∈ xs := List.getElem_mem hlt
    have sub : ∀ q ∈ O, q ∈ ((D, OO.lst (((xs.take i).filter p).map f)) :: O) := fun _ z => List.mem_cons_of_mem _ z
    have tk : xs.take (i + 1) = xs.take i ++ [xs[i]] := by rw [List.take_add_one, List.getElem?_eq_getElem hlt]; rfl
    intro s0 H0 C cl fp
    refine htg _ hm s0 H0 C cl fp x (wipe σ vs) _ H2 R2 z _ fun σ3 R3 b3 => ⟨?_, ?_⟩
    · rw [wipe_but b3 hx, wipe_wipe]
    · intro s0 H0 C cl fp
      refine hif _ hm _ sub s0 H0 C cl fp σ3 H2 R3 _ fun H3 s3 => ?_
      have s23 := (s.trans s2).trans s3
      cases hp : p xs[i] with
      | true =>
        rw [if_pos rfl]
        intro s0 H0 C cl fp
        refine hel _ hm hp _ sub s0 H0 C cl fp σ3 H3 (R3.step s3) _ fun v H4 r4 O4 ⟨e1, e2⟩ s4 z4 => ?_
        subst e1; subst e2
        have s5 := s23.trans s4
        obtain ⟨acc, h1, h2⟩ := s5.ok.is (D, .lst (((xs.take i).filter p).map f)) List.mem_cons_self
        have hD' : D ∉ O.map (·.1) := (List.nodup_cons.mp s5.ok.nd).1
        refine ⟨acc, h1, ?_, ?_⟩
        · rw [dpa_len h2]
          have e1 := List.length_filter_le p (xs.take i)
          rw [List.length_take] at e1
          rw [List.length_map]
          exact Nat.lt_of_le_of_lt (show _ ≤ 100000 by omega) (by decide)
        · have s6 := Stp.put (o := .lst (((xs.take (i + 1)).filter p).map f)) (ho := .lst (acc ++ [v])) (p := D) s5.ok (by simp) (fun x e => by rw [h1] at e; cases e) ⟨acc ++ [v], upd_same, by
            rw [tk, List.filter_append, List.map_append]
            refine dpa_app h2 ?_
            rw [List.filter_cons, if_pos hp]
            exact .cons z4 .nil⟩
          rw [setO_head hD'] at s6
          exact s5.trans s6
      | false =>
        rw [if_neg Bool.false_ne_true]
        rw [tk, List.filter_append, List.filter_cons, if_neg (by rw [hp]; decide), List.filter_nil, List.append_nil]
        exact s23
  · have e : i = xs.length := by omega
    subst e
    refine .inl ⟨y.stop _ H' s, ?_⟩
    rw [List.take_length] at s
    exact q _ H' _ _ ⟨rfl, rfl⟩ ((s1.trans s).trans (Stp.pop s.ok)) s.ok.popL
/-- [elt for tg in iter if c] -/
theorem x_lc {xs : List α} {g : α → SV} (own : List (Str × Nat)) (ixs : List Nat) (E2 : α → En) (p : α → Bool) (f : α → PyData) (hN : X.N.Nodup) (hi : IT X tg iter E O xs g) (ok : BlkOk X.N X.env.scope scope own) (hlen : xs.length ≤ 100000)
    (htg : ∀ x ∈ xs, Blk X scope fun X' => TGr X' tg ixs (g x) (wipeE E (own.map (·.2))) (E2 x))
    (hif : ∀ x ∈ xs, ∀ O', (∀ q ∈ O, q ∈ O') → Blk X scope fun X' => ET X' c (E2 x) O' (p x))
    (hel : ∀ x ∈ xs, p x = true → ∀ O', (∀ q ∈ O, q ∈ O') → Blk X scope fun X' => EX X' elt (E2 x) O' (.d (f x)))
    (hx : ∀ j ∈ ixs, j ∈ own.map (·.2) := by decide) (hc : X.calm = true := by rfl) (hs : ∀ x, foldedSetIterable iter X.env x = pure x := by intro _; rfl) : EX X (.ListComp elt [⟨tg, iter, [c], 0⟩] scope pos) E O (vL ((xs.filter p).map f)) := fun σ H R Q q => by
  obtain ⟨wi, pi, hw⟩ := hi
  refine we_of (pe_lc (own := own) (g := fun v σ H' Q => Blk X scope fun X' => WG X' tg v σ H' Q) (tt := fun σ H' Q => Blk X scope fun X' => WTs X' [c] σ H' Q) (te := fun σ H' Q => Blk X scope fun X' => WE X' elt σ H' Q) hc hN pi ok (fun s H C cl fp => ⟨fun pins s1 σ1 H1 v u Q1 I r h => h s H C cl fp pins s1 u I r⟩) (fun s H C cl fp => ⟨fun pins s1 σ1 H1 Q1 I h => h s H C cl fp pins s1 I⟩) (fun s H C cl fp => ⟨fun pins s1 σ1 H1 Q1 I h => h s H C cl fp pins s1 I⟩) hs) ?_
  exact lc_core ixs E2 p f hx hlen hw htg (fun x hx O' hO s H C cl fp => ts_one (hif x hx O' hO s H C cl fp)) hel R q
theorem x_lc0 {xs : List α} {g : α → SV} (own : List (Str × Nat)) (ixs : List Nat) (E2 : α → En) (f : α → PyData) (hN : X.N.Nodup) (hi : IT X tg iter E O xs g) (ok : BlkOk X.N X.env.scope scope own) (hlen : xs.length ≤ 100000)
    (htg : ∀ x ∈ xs, Blk X scope fun X' => TGr X' tg ixs (g x) (wipeE E (own.map (·.2))) (E2 x))
    (hel : ∀ x ∈ xs, ∀ O', (∀ q ∈ O, q ∈ O') → Blk X scope fun X' => EX X' elt (E2 x) O' (.d (f x)))
    (hx : ∀ j ∈ ixs, j ∈ own.map (·.2) := by decide) (hc : X.calm = true := by rfl) (hs : ∀ x, foldedSetIterable iter X.env x = pure x := by intro _; rfl) : EX X (.ListComp elt [⟨tg, iter, [], 0⟩] scope pos) E O (vL (xs.map f)) := fun σ H R Q q => by
  obtain ⟨wi, pi, hw⟩ := hi
  refine we_of (pe_lc (own := own) (g := fun v σ H' Q => Blk X scope fun X' => WG X' tg v σ H' Q) (tt := fun σ H' Q => Blk X scope fun X' => WTs X' [] σ H' Q) (te := fun σ H' Q => Blk X scope fun X' => WE X' elt σ H' Q) hc hN pi ok (fun s H C cl fp => ⟨fun pins s1 σ1 H1 v u Q1 I r h => h s H C cl fp pins s1 u I r⟩) (fun s H C cl fp => ⟨fun pins s1 σ1 H1 Q1 I h => h s H C cl fp pins s1 I⟩) (fun s H C cl fp => ⟨fun pins s1 σ1 H1 Q1 I h => h s H C cl fp pins s1 I⟩) hs) ?_
  refine lc_core ixs E2 (fun _ => true) f hx hlen hw htg (fun x hx O' hO s H C cl fp => ts_nil) (fun x hx _ => hel x hx) R ?_
  rw [List.filter_eq_self.mpr (fun _ _ => rfl)]
  exact q
/-- name = [elt for tg in iter if c], on one line -/
theorem s_lc {D : PD} {xs : List α} {g : α → SV} {y : Str} {py spos : Pos} (i : Nat) (own : List (Str × Nat)) (ixs : List Nat) (E2 : α → En) (p : α → Bool) (f : α → PyData) (hN : X.N.Nodup) (hi : IT X tg iter E O xs g) (ok : BlkOk X.N X.env.scope scope own) (hlen : xs.length ≤ 100000)
    (hsw : swapsWith (.ListComp elt [⟨tg, iter, [c], 0⟩] scope pos) (some (.Name y py)) spos.line X.env = pure true)
    (htg : ∀ x ∈ xs, Blk X scope fun X' => TGr X' tg ixs (g x) (wipeE E (own.map (·.2))) (E2 x))
    (hif : ∀ x ∈ xs, ∀ O', (∀ q ∈ O, q ∈ O') → Blk X scope fun X' => ET X' c (E2 x) O' (p x))
    (hel : ∀ x ∈ xs, p x = true → ∀ O', (∀ q ∈ O, q ∈ O') → Blk X scope fun X' => EX X' elt (E2 x) O' (.d (f x)))
    (h : D.nx (E.set i (some (vL ((xs.filter p).map f)))) O)
    (hy : X.N[i]? = some y := by rfl) (hyl : X.env.scope.names.lookup y = some .local := by rfl)
    (hx : ∀ j ∈ ixs, j ∈ own.map (·.2) := by decide) (hc : X.calm = true := by rfl) (hs : ∀ x, foldedSetIterable iter X.env x = pure x := by intro _; rfl) : SG X (.Assign [.Name y py] (.ListComp elt [⟨tg, iter, [c], 0⟩] scope pos) spos) E O D := fun σ H R D' rf => by
  obtain ⟨wi, pi, hw⟩ := hi
  refine ws_of (ps_setLc (own := own) (g := fun v σ H' Q => Blk X scope fun X' => WG X' tg v σ H' Q) (tt := fun σ H' Q => Blk X scope fun X' => WTs X' [c] σ H' Q) (te := fun σ H' Q => Blk X scope fun X' => WE X' elt σ H' Q) hc hN hy hyl hsw pi ok (fun s H C cl fp => ⟨fun pins s1 σ1 H1 v u Q1 I r h => h s H C cl fp pins s1 u I r⟩) (fun s H C cl fp => ⟨fun pins s1 σ1 H1 Q1 I h => h s H C cl fp pins s1 I⟩) (fun s H C cl fp => ⟨fun pins s1 σ1 H1 Q1 I h => h s H C cl fp pins s1 I⟩) hs) ?_
  refine lc_core ixs E2 p f hx hlen hw htg (fun x hx O' hO s H C cl fp => ts_one (hif x hx O' hO s H C cl fp)) hel R fun v H1 r O1 ⟨e1, e2⟩ s z => ?_
  subst e1; subst e2
  exact rf.nx _ H1 _ _ h s ((R.step s).set i z)
theorem s_lc0 {D : PD} {xs : List α} {g : α → SV} {y : Str} {py spos : Pos} (i : Nat) (own : List (Str × Nat)) (ixs : List Nat) (E2 : α → En) (f : α → PyData) (hN : X.N.Nodup) (hi : IT X tg iter E O xs g) (ok : BlkOk X.N X.env.scope scope own) (hlen : xs.length ≤ 100000)
    (hsw : swapsWith (.ListComp elt [⟨tg, iter, [], 0⟩] scope pos) (some (.Name y py)) spos.line X.env = pure true)
    (htg : ∀ x ∈ xs, Blk X scope fun X' => TGr X' tg ixs (g x) (wipeE E (own.map (·.2))) (E2 x))
    (hel : ∀ x ∈ xs, ∀ O', (∀ q ∈ O, q ∈ O') → Blk X scope fun X' => EX X' elt (E2 x) O' (.d (f x)))
    (h : D.nx (E.set i (some (vL (xs.map f)))) O)
    (hy : X.N[i]? = some y := by rfl) (hyl : X.env.scope.names.lookup y = some .local := by rfl)
    (hx : ∀ j ∈ ixs, j ∈ own.map (·.2) := by decide) (hc : X.calm = true := by rfl) (hs : ∀ x, foldedSetIterable iter X.env x = pure x := by intro _; rfl) : SG X (.Assign [.Name y py] (.ListComp elt [⟨tg, iter, [], 0⟩] scope pos) spos) E O D := fun σ H R D' rf => by
  obtain ⟨wi, pi, hw⟩ := hi
  refine ws_of (ps_setLc (own := own) (g := fun v σ H' Q => Blk X scope fun X' => WG X' tg v σ H' Q) (tt := fun σ H' Q => Blk X scope fun X' => WTs X' [] σ H' Q) (te := fun σ H' Q => Blk X scope fun X' => WE X' elt σ H' Q) hc hN hy hyl hsw pi ok (fun s H C cl fp => ⟨fun pins s1 σ1 H1 v u Q1 I r h => h s H C cl fp pins s1 u I r⟩) (fun s H C cl fp => ⟨fun pins s1 σ1 H1 Q1 I h => h s H C cl fp pins s1 I⟩) (fun s H C cl fp => ⟨fun pins s1 σ1 H1 Q1 I h => h s H C cl fp pins s1 I⟩) hs) ?_
  refine lc_core ixs E2 (fun _ => true) f hx hlen hw htg (fun x hx O' hO s H C cl fp => ts_nil) (fun x hx _ => hel x hx) R fun v H1 r O1 ⟨e1, e2⟩ s z => ?_
  subst e1; subst e2
  rw [List.filter_eq_self.mpr (fun _ _ => rfl)] at z
  exact rf.nx _ H1 _ _ h s ((R.step s).set i z)
end

/-! ### defs -/
abbrev FSpec := List SV → Own → (SV → Own → Prop) → Prop
def spOf (K : PySem.W.Frag) (T : FSpec) : Sp := fun vs H Q _ => ∃ O rs Φ, OwnOk K O H ∧ SVs K (vis O H) vs rs ∧ T rs O Φ ∧ Kont K O H Φ Q
/-- a def of data alone -/
def pure1 (R : List PyData → PyData → Prop) : FSpec := fun rs O Φ => ∃ ds d, rs = ds.map .d ∧ R ds d ∧ Φ (.d d) O
structure Fn (P : Program) (w : World) (K : PySem.W.Frag) (mg : Str → Option Value) (base : Heap) (x : Str) (k : Nat) (T : FSpec) : Prop where
  ex : ∃ f fd ps, FnOk P w K mg base CX0 k f fd ps (spOf K T) ∧ mg x = some (.ref f) ∧ PySem.W.keepIn K (.ref f) = true ∧ Binds K fd ps []
theorem Fn.mono {P : Program} {w : World} {K : PySem.W.Frag} {mg : Str → Option Value} {base : Heap} {x : Str} {k k' : Nat} {T : FSpec} (h : Fn P w K mg base x k T) (hk : k ≤ k') : Fn P w K mg base x k' T := by
  obtain ⟨f, fd, ps, h1, h2⟩ := h.ex
  exact ⟨f, fd, ps, h1.mono hk, h2⟩
def startE (N : List Str) (rs : List SV) : En := rs.map some ++ List.replicate (N.length - rs.length) none
theorem rep_start {K : PySem.W.Frag} {O : Own} {H : Hp} {N : List Str} {vs : List V} {rs : List SV} (ok : OwnOk K O H) (h : SVs K (vis O H) vs rs) : Rep K (startE N rs) O (L2.start N vs) H := by
  have hl := h.len
  refine ⟨by unfold L2.start startE; simp [hl], ok, fun i r e => ?_⟩
  have key : ∀ {vs : List V} {rs : List SV}, SVs K (vis O H) vs rs → ∀ (i : Nat) (r : SV), rs[i]? = some r → ∃ v, vs[i]? = some v ∧ SVr K (vis O H) v r := by
    intro vs rs h
    induction h with
    | nil => intro i r e; simp at e
    | cons h1 h2 ih =>
      intro i r e
      cases i with
      | zero =>
        simp at e
        subst e
        exact ⟨_, rfl, h1⟩
      | succ i =>
        obtain ⟨v, q1, q2⟩ := ih i r (by simpa using e)
        exact ⟨v, by simpa using q1, q2⟩
  unfold startE at e
  unfold L2.start
  by_cases hi : i < rs.length
  · rw [List.getElem?_append_left (by simpa using hi), List.getElem?_map] at e
    obtain ⟨r', e1, e2⟩ := Option.map_eq_some_iff.mp e
    cases e2
    obtain ⟨v, q1, q2⟩ := key h i r e1
    exact ⟨v, by rw [List.getElem?_append_left (by simpa [hl] using hi), List.getElem?_map, q1]; rfl, q2⟩
  · rw [List.getElem?_append_right (by simpa using hi), List.getElem?_replicate] at e
    split at e <;> cases e
theorem fn_mk {P : Program} {w : World} {K : PySem.W.Frag} {mg : Str → Option Value} {base : Heap} {x qual : Str} {st : Stmt} {f : Addr} {fd : FuncData} {N ps : List Str} {k : Nat} {T : FSpec} (F : Fun K x qual st f fd) (S : FnScope N ps (defScope st)) (hm : mg x = some (.ref f)) (hb : Binds K fd ps [])
    (len : ∀ rs O Φ, T rs O Φ → rs.length = ps.length)
    (hbody : ∀ (X : Cx) (cdv : Value) (A : Around) (outer : List Env) (s : Shared) (H : Hp) (E : XK) (rs : List SV) (O : Own) (Φ : SV → Own → Prop), X = (cxOf CX0 P w K mg base N qual (defScope st) f cdv A outer s H E).nox → Room k X.A → T rs O Φ →
      SB (cxOf CX0 P w K mg base N qual (defScope st) f cdv A outer s H E).nox (defBody st) (startE N rs) O ⟨fun _ O' => Φ vN O', Φ, fun _ _ => False, fun _ _ => False⟩) : Fn P w K mg base x (k + 1) T := by
  refine ⟨f, fd, ps, F.ok S (fun vs H Q E h => ?_) (fun cdv A outer s H vs Q E hr h => ?_), hm, F.kp, hb⟩
  · obtain ⟨O, rs, Φ, ok, h1, h2, _⟩ := h
    rw [h1.len]
    exact len rs O Φ h2
  · obtain ⟨O, rs, Φ, ok, h1, h2, h3⟩ := h
    refine ⟨_, WSs.pss, ?_⟩
    refine hbody _ cdv A outer s H E rs O Φ rfl hr h2 (L2.start N vs) H (rep_start ok h1) _ ⟨?_, ?_, ?_, ?_⟩
    · intro σ' H' E' O' z s R'
      exact h3 .non H' vN O' z s .non
    · intro v H' r O' z s z2
      exact h3 v H' r O' z s z2
    · intro _ _ _ _ z
      exact z.elim
    · intro _ _ _ _ z
      exact z.elim
section
variable {X : Cx} {e : Expr} {es : List Expr} {E : En} {O : Own} {pos p : Pos}
theorem g_call {x : Str} {k : Nat} {T : FSpec} {rs : List SV} {Φ : SV → Own → Prop} (F : Fn X.prog X.w X.K X.mg X.base x k T) (hr : Room k X.A) (ha : EA X (e :: es) E O rs) (hT : T rs O Φ) (hg : Gl X x := by rfl) (hdb : (x == ("__debug__" : Str)) = false := by decide) (he : starEach (e :: es) X.env = (false, eval e X.env) :: starEach es X.env := by rfl) (hpl : (backTo pos (starEach es X.env)).any (·.1) = false := by rfl) :
    EG X (.Call (.Name x p) (e :: es) [] pos) E O Φ := fun σ H R Q q => by
  obtain ⟨f, fd, ps, h1, h2, h3, h4⟩ := F.ex
  refine we_of (pe_call h1 hr hg h2 h3 h4 .nil pass0 WA.pa hdb he hpl) ?_
  refine ha σ H R _ fun vs H1 rs1 O1 ⟨e1, e2⟩ s1 z1 => ?_
  subst e1; subst e2
  refine ⟨_, _, Φ, s1.ok, by rw [List.append_nil]; exact z1, hT, fun v H' r O' f s z => q v H' r O' f (s1.trans s) z⟩
theorem x_call {x : Str} {k : Nat} {Rl : List PyData → PyData → Prop} {ds : List PyData} {d : PyData} (F : Fn X.prog X.w X.K X.mg X.base x k (pure1 Rl)) (hr : Room k X.A) (ha : EA X (e :: es) E O (ds.map .d)) (hT : Rl ds d) (hg : Gl X x := by rfl) (hdb : (x == ("__debug__" : Str)) = false := by decide) (he : starEach (e :: es) X.env = (false, eval e X.env) :: starEach es X.env := by rfl) (hpl : (backTo pos (starEach es X.env)).any (·.1) = false := by rfl) :
    EX X (.Call (.Name x p) (e :: es) [] pos) E O (.d d) := g_call F hr ha ⟨ds, d, rfl, hT, rfl, rfl⟩ hg hdb he hpl
end
end Py
namespace Py
open PySem PySem.Spec PyProof.Rows L2
def Has (K : PySem.W.Frag) (mg : Str → Option Value) (x : Str) (st : Stmt) : Prop := ∃ f fd, FunD K x x (defArgs st) (defBody st) (defScope st) [] [] f fd ∧ mg x = some (.ref f)
section
variable {P : Program} {w : World} {K : PySem.W.Frag} {mg : Str → Option Value} {base : Heap} {x : Str} {st : Stmt} {N ps : List Str} {k : Nat} {T : FSpec}
theorem fn_at {f : Addr} {fd : FuncData} (F : FunD K x x (defArgs st) (defBody st) (defScope st) [] [] f fd) (S : FnScope N ps (defScope st))
    (len : ∀ rs O Φ, T rs O Φ → rs.length = ps.length)
    (hbody : ∀ (cdv : Value) (A : Around) (outer : List Env) (s : Shared) (H : Hp) (E : XK) (rs : List SV) (O : Own) (Φ : SV → Own → Prop), Room k (cxOf CX0 P w K mg base N x (defScope st) f cdv A outer s H E).nox.A → T rs O Φ →
      SB (cxOf CX0 P w K mg base N x (defScope st) f cdv A outer s H E).nox (defBody st) (startE N rs) O ⟨fun _ O' => Φ vN O', Φ, fun _ _ => False, fun _ _ => False⟩) : FnOk P w K mg base CX0 (k + 1) f fd ps (spOf K T) := by
  refine F.ok S (fun vs H Q E h => ?_) (fun cdv A outer s H vs Q E hr h => ?_)
  · obtain ⟨O, rs, Φ, ok, h1, h2, _⟩ := h
    rw [h1.len]
    exact len rs O Φ h2
  · obtain ⟨O, rs, Φ, ok, h1, h2, h3⟩ := h
    refine ⟨_, PSs.nox WSs.pss, ?_⟩
    refine hbody cdv A outer s H E rs O Φ hr h2 (L2.start N vs) H (rep_start ok h1) _ ⟨?_, ?_, ?_, ?_⟩
    · intro σ' H' E' O' z s R'
      exact h3 .non H' vN O' z s .non
    · intro v H' r O' z s z2
      exact h3 v H' r O' z s z2
    · intro _ _ _ _ z
      exact z.elim
    · intro _ _ _ _ z
      exact z.elim
theorem fn_mk2 (F : Has K mg x st) (S : FnScope N ps (defScope st))
    (hb : ∀ (kV doc pm : Value) (an : Option Addr) (cdv ct : Value) (us : List Value), us.length = ps.length → bindArgs (PySem.W.fnOf x x (defArgs st) (defBody st) (defScope st) .none kV doc pm an cdv ct) ⟨us, []⟩ = pure (ps.zip us))
    (len : ∀ rs O Φ, T rs O Φ → rs.length = ps.length)
    (hbody : ∀ (f : Addr) (cdv : Value) (A : Around) (outer : List Env) (s : Shared) (H : Hp) (E : XK) (rs : List SV) (O : Own) (Φ : SV → Own → Prop), Room k (cxOf CX0 P w K mg base N x (defScope st) f cdv A outer s H E).nox.A → T rs O Φ →
      SB (cxOf CX0 P w K mg base N x (defScope st) f cdv A outer s H E).nox (defBody st) (startE N rs) O ⟨fun _ O' => Φ vN O', Φ, fun _ _ => False, fun _ _ => False⟩) : Fn P w K mg base x (k + 1) T := by
  obtain ⟨f, fd, F, hm⟩ := F
  exact ⟨f, fd, ps, fn_at F S len (hbody f), hm, F.kp, F.bindsN hb⟩
/-- the law's own promise -/
def T_law : FSpec := fun rs O Φ => ∃ ns : List Int, ns.length ≤ 63 ∧ rs = [.s ns] ∧ Φ (vB true) O
theorem vis_nil (H : Hp) : vis [] H = H := by
  funext a
  unfold vis
  rw [if_neg (by simp)]
theorem sp_law {H : Hp} {a : Addr} {ns : List Int} (hl : ns.length ≤ 63) (hS : SqL K H a (ns.map V.int)) : spOf K T_law [.ref a] H (fun v _ => v = .bl true) fun _ _ _ => False := by
  refine ⟨[], [.s ns], is1 (vB true) [], ⟨List.nodup_nil, fun _ z => nomatch z⟩, .cons ?_ .nil, ⟨ns, hl, rfl, rfl, rfl⟩, ?_⟩
  · rw [vis_nil]
    exact ⟨a, rfl, hS⟩
  · rintro v H' r O' ⟨rfl, rfl⟩ s z
    exact bl_of z
end
end Py
namespace Py
open PySem PySem.Spec PyProof.Rows L2

section
variable {X : Cx} {a b c e o : Expr} {es : List Expr} {E : En} {O : Own} {pos p p' pos' : Pos}

/-! ### arguments that are data -/
def EAd (X : Cx) (es : List Expr) (E : En) (O : Own) (ds : List PyData) : Prop := EA X es E O (ds.map .d)
theorem ad_nil : EAd X [] E O [] := a_nil
theorem ad_cons {d : PyData} {ds : List PyData} (h : EX X e E O (.d d)) (hr : EAd X es E O ds) (hs : starEach (e :: es) X.env = (false, eval e X.env) :: starEach es X.env := by rfl) : EAd X (e :: es) E O (d :: ds) := a_cons h hr hs
theorem y_tup {ds : List PyData} {k : Nat} (h : EAd X es E O ds) (hl : Nat.ble ds.length 100000 = true := by rfl) : EX X (.Tuple es k pos) E O (vT ds) := x_tup h (Nat.le_of_ble_eq_true hl)
theorem y_lst {ds : List PyData} (h : EAd X es E O ds) (hl : Nat.ble ds.length 100000 = true := by rfl) : EX X (.List es pos) E O (vL ds) := x_lst h (Nat.le_of_ble_eq_true hl)
theorem y_call {x : Str} {k : Nat} {Rl : List PyData → PyData → Prop} {ds : List PyData} {d : PyData} (F : Fn X.prog X.w X.K X.mg X.base x k (pure1 Rl)) (hr : Room k X.A) (ha : EAd X (e :: es) E O ds) (hT : Rl ds d) (hg : Gl X x := by rfl) (hdb : (x == ("__debug__" : Str)) = false := by decide) (he : starEach (e :: es) X.env = (false, eval e X.env) :: starEach es X.env := by rfl) (hpl : (backTo pos (starEach es X.env)).any (·.1) = false := by rfl) :
    EX X (.Call (.Name x p) (e :: es) [] pos) E O (.d d) := x_call F hr ha hT hg hdb he hpl

/-! ### own things are let go -/
theorem stp_sub {K : PySem.W.Frag} {O O' : Own} {H : Hp} (ok : OwnOk K O H) (hs : O'.Sublist O) : Stp K O H O' H := by
  have hk : ∀ a, a ∈ O'.map (·.1) → a ∈ O.map (·.1) := fun a h => (hs.map _).subset h
  refine ⟨fun _ _ _ e => e, fun a z => .inl (hk a z), fun _ e => e, ok.nd.sublist (hs.map _), fun q hq => ?_⟩
  refine (ok.is q (hs.subset hq)).sub (fun a o' z => ?_) rfl (fun _ z => z)
  obtain ⟨z1, z2⟩ := vis_some z
  exact vis_of (fun z => z1 (hk a z)) z2
theorem EX.go {r : SV} {O' : Own} (h : EX X e E O r) (hs : O'.Sublist O) : EG X e E O (is1 r O') := fun σ H R Q k => h σ H R Q fun v H' r' O1 ⟨e1, e2⟩ s z => by
  subst e1; subst e2
  have s2 := stp_sub s.ok hs
  exact k v H' _ _ ⟨rfl, rfl⟩ (s.trans s2) (s2.sv z)
theorem s_retO {D : PD} {r : SV} {O' : Own} (he : EX X e E O r) (hs : O'.Sublist O) (h : D.rt r O') : SG X (.Return (some e) pos) E O D := s_retG (he.go hs) (fun r' O' ⟨e1, e2⟩ => by subst e1; subst e2; exact h)
theorem sb_go {D : PD} {sts : List Stmt} {O' : Own} (hs : O'.Sublist O) (h : SB X sts E O' D) : SB X sts E O D := fun σ H R D' rf => h σ H (R.step (stp_sub R.own hs)) D' (rf.step (stp_sub R.own hs))
/-! ### ranges of natural numbers -/
theorem it_rangeN {tg : Expr} {n : Nat} (hm : X.mg "range" = none) (h : EX X a E O (vI (n : Int))) (hb : n ≤ 100000) (hg : Gl X "range" := by rfl) (hs : starEach [a] X.env = [(false, eval a X.env)] := by rfl) : IT X tg (.Call (.Name "range" p) [a] [] pos) E O (List.range n) (fun i => vI (i : Int)) :=
  (it_range1 hg hm h (by omega) hs).as (by simp)
theorem it_range2N {tg : Expr} {lo n : Nat} (hm : X.mg "range" = none) (h1 : EX X a E O (vI (lo : Int))) (h2 : EX X b E O (vI (n : Int))) (hb : lo ≤ 100000 ∧ n ≤ 100000) (hg : Gl X "range" := by rfl)
    (hs : starEach [a, b] X.env = [(false, eval a X.env), (false, eval b X.env)] := by rfl) (hs2 : starEach [b] X.env = [(false, eval b X.env)] := by rfl) : IT X tg (.Call (.Name "range" p) [a, b] [] pos) E O (List.range (n - lo)) (fun i => vI ((lo + i : Nat) : Int)) :=
  (it_range2 hg hm h1 h2 (by omega) hs hs2).as (by
    have e : ((n : Int) - (lo : Int)).toNat = n - lo := by omega
    rw [e]
    apply List.map_congr_left
    intro i _
    show vI _ = vI _
    simp)
/-! ### own lists -/
theorem g_newL : EG X (.List [] pos) E O fun r O' => ∃ q, r = .v (.ref q) ∧ O' = (q, .lst []) :: O ∧ q ∉ O.map (·.1) := fun σ H R Q k => we_of (pe_lst pa_nil) (by
  refine ⟨Nat.zero_le _, fun q hq => ?_⟩
  exact k _ _ _ _ ⟨q, rfl, rfl, R.own.fresh hq⟩ (Stp.own R.own hq ⟨[], upd_same, .nil⟩) rfl)
theorem g_newD : EG X (.Dict [] [] pos) E O fun r O' => ∃ q, r = .v (.ref q) ∧ O' = (q, .dic []) :: O ∧ q ∉ O.map (·.1) := fun σ H R Q k => we_of pe_dnewK (by
  intro q hq
  exact k _ _ _ _ ⟨q, rfl, rfl, R.own.fresh hq⟩ (Stp.own R.own hq ⟨[], upd_same, .nil⟩) rfl)
theorem g_append {q : Addr} {ds : List PyData} {d : PyData} (ha : EX X a E O (.v (.ref q))) (hb : EX X b E O (.d d)) (hO : (q, .lst ds) ∈ O) (hl : ds.length < 100000)
    (p1 : PE X (.Call (.Attribute a "append" p) [b] [] pos) (tBM X.K "list" rAppend (WE X a) (WA X [b]))) (hs : starEach [b] X.env = (false, eval b X.env) :: starEach [] X.env := by rfl) :
    EG X (.Call (.Attribute a "append" p) [b] [] pos) E O fun r O' => r = vN ∧ O' = setO O q (.lst (ds ++ [d])) := fun σ H R Q k => we_of p1 (by
  refine ha σ H R _ fun v H1 r1 O1 ⟨e1, e2⟩ s1 z1 => ?_
  subst e1; subst e2
  obtain rfl : v = .ref q := z1
  obtain ⟨vs, h1, h2⟩ := s1.ok.is _ hO
  refine ⟨.inl ⟨rfl, _, SqL.of h1⟩, ?_⟩
  refine (a_cons hb a_nil hs : EA X [b] E _ [.d d]) σ H1 (R.step s1) _ fun us H2 rs O2 ⟨e1, e2⟩ s2 z2 => ?_
  subst e1; subst e2
  cases z2 with
  | cons z2 z3 =>
    cases z3
    obtain ⟨vs2, h3, h4⟩ := s2.ok.is _ hO
    refine ⟨q, vs2, _, rfl, rfl, h3, ?_, ?_⟩
    · rw [dpa_len h4]
      exact Nat.lt_of_lt_of_le hl (by decide)
    · have s3 := Stp.put (o := .lst (ds ++ [d])) (ho := .lst (vs2 ++ [_])) s2.ok (List.mem_map_of_mem hO) (fun x e => by rw [h3] at e; cases e) ⟨_, upd_same, dpa_app h4 (.cons z2 .nil)⟩
      exact k _ _ _ _ ⟨rfl, rfl⟩ ((s1.trans s2).trans s3) .non)
theorem s_append {D : PD} {q : Addr} {ds : List PyData} {d : PyData} (ha : EX X a E O (.v (.ref q))) (hb : EX X b E O (.d d)) (hO : (q, .lst ds) ∈ O) (hl : ds.length < 100000) (h : D.nx E (setO O q (.lst (ds ++ [d]))))
    (hbase : attributeBase a "append" X.env (eval a X.env) = eval a X.env := by rfl)
    (hfew : ((backTo pos (starEach [b] X.env)).all (fun x => !x.1) && (backToKw pos (keywordEach [] X.env)).all (fun x => x.1.isSome)
      && decide (([b] : List Expr).length + ([] : List Keyword).length + (if ([] : List Keyword).isEmpty then 0 else 1) < 30)) = true := by rfl)
    (hline : (p.endLine == pos.line) = true := by rfl) (hplain : (backTo pos (starEach [] X.env)).any (·.1) = false := by rfl) (hs : starEach [b] X.env = (false, eval b X.env) :: starEach [] X.env := by rfl)
    (hw : swapsWith (.Call (.Attribute a "append" p) [b] [] pos) none pos'.line X.env = pure false := by rfl) :
    SG X (.Expr (.Call (.Attribute a "append" p) [b] [] pos) pos') E O D := s_exprG (g_append ha hb hO hl (pe_bm PySem.F.plainAttrs_list PySem.F.slot_list_append PySem.F.type_list_append mt_append WE.pe WA.pa hbase hfew hline hs hplain) hs) (fun r O' ⟨e1, e2⟩ => by subst e2; exact h) hw

/-- an own list is let go: from here on it is data -/
theorem sb_free {D : PD} {sts : List Stmt} {E' : En} {q : Addr} {ds : List PyData} (hO : (q, .lst ds) ∈ O) (hl : E'.length = E.length) (hE : ∀ (j : Nat) (r : SV), E'[j]? = some (some r) → E[j]? = some (some r) ∨ (E[j]? = some (some (.v (.ref q))) ∧ r = vL ds)) (h : SB X sts E' (dropO O q) D) : SB X sts E O D := fun σ H R D' rf => by
  have s := Stp.drop R.own q
  refine h σ H ⟨R.len.trans hl.symm, s.ok, fun j r e => ?_⟩ D' (rf.step s)
  rcases hE j r e with h1 | ⟨h1, h2⟩
  · obtain ⟨v, z1, z2⟩ := R.sl j r h1
    exact ⟨v, z1, s.sv z2⟩
  · subst h2
    obtain ⟨v, z1, z2⟩ := R.sl j _ h1
    obtain rfl : v = .ref q := z2
    exact ⟨_, z1, R.own.dropL hO⟩

/-! ### dicts with int keys -/
def dval (kvs : List (Int × PyData)) (k : Int) : Option PyData := (kvs.find? fun kv => decide (kv.1 = k)).map (·.2)
def dput (kvs : List (Int × PyData)) (k : Int) (v : PyData) : List (Int × PyData) :=
  if (kvs.any fun kv => decide (kv.1 = k)) = true then kvs.map (fun kv => if kv.1 = k then (kv.1, v) else kv) else kvs ++ [(k, v)]
abbrev KvR (W : Hp) : List (Key × V) → List (Int × PyData) → Prop := Paired fun (p : Key × V) (q : Int × PyData) => p.1 = Sum.inl q.1 ∧ Dq W p.2 q.2
theorem kv_val {W : Hp} {k : Int} : ∀ {vs : List (Key × V)} {kvs : List (Int × PyData)}, KvR W vs kvs → match dval kvs k with
    | some d => ∃ v, valV vs (Sum.inl k) = some v ∧ Dq W v d
    | none => valV vs (Sum.inl k) = none
  | _, _, .nil => rfl
  | (x, v) :: vs, (j, d) :: kvs, .cons ⟨e, h⟩ t => by
    obtain rfl : x = Sum.inl j := e
    by_cases hj : j = k
    · subst hj
      have e1 : dval ((j, d) :: kvs) j = some d := by simp [dval]
      rw [e1]
      exact ⟨v, valV_pos rfl, h⟩
    · have e1 : dval ((j, d) :: kvs) k = dval kvs k := by simp [dval, hj]
      have e2 : valV ((Sum.inl j, v) :: vs) (Sum.inl k : Key) = valV vs (Sum.inl k) := valV_neg (fun z => hj (Sum.inl.inj z))
      rw [e1, e2]
      exact kv_val t
theorem kv_len {W : Hp} {vs : List (Key × V)} {kvs : List (Int × PyData)} (h : KvR W vs kvs) : vs.length = kvs.length := Paired.length h
theorem kv_any {W : Hp} {k : Int} : ∀ {vs : List (Key × V)} {kvs : List (Int × PyData)}, KvR W vs kvs → (vs.any fun kv => decide (kv.1 = (Sum.inl k : Key))) = (kvs.any fun kv => decide (kv.1 = k))
  | _, _, .nil => rfl
  | (x, v) :: vs, (j, d) :: kvs, .cons ⟨e, h⟩ t => by
    obtain rfl : x = Sum.inl j := e
    rw [List.any_cons, List.any_cons, kv_any t]
    congr 1
    by_cases hj : j = k
    · subst hj; simp
    · simp [hj]
theorem kv_repl {W : Hp} {k : Int} {v : V} {d : PyData} (h : Dq W v d) : ∀ {vs : List (Key × V)} {kvs : List (Int × PyData)}, KvR W vs kvs → KvR W (vs.map fun kv => if kv.1 = Sum.inl k then (kv.1, v) else kv) (kvs.map fun kv => if kv.1 = k then (kv.1, d) else kv)
  | _, _, .nil => .nil
  | (x, u) :: vs, (j, d') :: kvs, .cons ⟨e, h1⟩ t => by
    obtain rfl : x = Sum.inl j := e
    rw [List.map_cons, List.map_cons]
    refine .cons ?_ (kv_repl h t)
    by_cases hj : j = k
    · subst hj
      simp only [if_true]
      exact ⟨trivial, h⟩
    · simp only [if_neg hj, if_neg (fun z => hj (Sum.inl.inj z) : ¬ (Sum.inl j : Key) = Sum.inl k)]
      exact ⟨trivial, h1⟩
theorem kv_app {W : Hp} : ∀ {vs us : List (Key × V)} {kvs js : List (Int × PyData)}, KvR W vs kvs → KvR W us js → KvR W (vs ++ us) (kvs ++ js)
  | _, _, _, _, .nil, b => b
  | _, _, _, _, .cons h t, b => .cons h (kv_app t b)
theorem kv_put {W : Hp} {k : Int} {v : V} {d : PyData} (h : Dq W v d) {vs : List (Key × V)} {kvs : List (Int × PyData)} (r : KvR W vs kvs) : KvR W (putK vs (Sum.inl k) v) (dput kvs k d) := by
  unfold putK dput
  rw [kv_any r]
  split
  · exact kv_repl h r
  · exact kv_app r (.cons ⟨rfl, h⟩ .nil)
theorem dput_len (kvs : List (Int × PyData)) (k : Int) (v : PyData) : (dput kvs k v).length ≤ kvs.length + 1 := by
  unfold dput
  split
  · rw [List.length_map]; omega
  · rw [List.length_append, List.length_singleton]; omega
theorem x_dget {q : Addr} {kvs : List (Int × PyData)} {k : Int} {d : PyData} (ha : EX X a E O (.v (.ref q))) (hb : EX X b E O (vI k)) (hO : (q, .dic kvs) ∈ O) (h : dval kvs k = some d) (hs : NoSl b := by exact fun _ _ => rfl) (hu : X.A.units + 64 < cLine := by assumption) : EX X (.Subscript a b pos) E O (.d d) := fun σ H R Q kk => we_of (pe_dget (by omega) WE.pe WE.pe hs) (by
  refine ha σ H R _ fun v H1 r1 O1 ⟨e1, e2⟩ s1 z1 => ?_
  subst e1; subst e2
  obtain rfl : v = .ref q := z1
  refine hb σ H1 (R.step s1) _ fun v H2 r2 O2 ⟨e1, e2⟩ s2 z2 => ?_
  subst e1; subst e2
  obtain rfl := int_of z2
  obtain ⟨vs, h1, h2⟩ := s2.ok.is _ hO
  have hv := kv_val (k := k) h2
  rw [h] at hv
  obtain ⟨v, h3, h4⟩ := hv
  refine ⟨q, v, rfl, ?_, kk _ H2 _ _ ⟨rfl, rfl⟩ (s1.trans s2) h4⟩
  rw [← h3]
  exact DGet.k (k := Sum.inl k) h1)
theorem c_din {q : Addr} {kvs : List (Int × PyData)} {k : Int} (ha : EX X a E O (vI k)) (hb : EX X b E O (.v (.ref q))) (hO : (q, .dic kvs) ∈ O) (hu : X.A.units + 64 < cLine := by assumption) : CX1 X .In a b E O (dval kvs k).isSome := fun σ H R Q kk => wc_of (pc_din (by omega) WE.pe WE.pe) (by
  refine ha σ H R _ fun v H1 r1 O1 ⟨e1, e2⟩ s1 z1 => ?_
  subst e1; subst e2
  obtain rfl := int_of z1
  refine hb σ H1 (R.step s1) _ fun v H2 r2 O2 ⟨e1, e2⟩ s2 z2 => ?_
  subst e1; subst e2
  obtain rfl : v = .ref q := z2
  obtain ⟨vs, h1, h2⟩ := s2.ok.is _ hO
  refine ⟨q, valV vs (Sum.inl k), rfl, DGet.k (k := Sum.inl k) h1, kk _ H2 _ _ ⟨rfl, rfl⟩ (s1.trans s2) ?_⟩
  have hv := kv_val (k := k) h2
  cases hd : dval kvs k with
  | none =>
    rw [hd] at hv
    rw [show valV vs (Sum.inl k) = none from hv]
    exact .bl _
  | some d =>
    rw [hd] at hv
    obtain ⟨v, h3, _⟩ := hv
    rw [h3]
    exact .bl _)
theorem x_dget2 {q : Addr} {kvs : List (Int × PyData)} {k : Int} {d : PyData} (ho : EX X o E O (.v (.ref q))) (ha : EX X a E O (vI k)) (hb : EX X b E O (.d d)) (hO : (q, .dic kvs) ∈ O)
    (m : M2 X o "get" p a b pos := by exact ⟨rfl, rfl, rfl, rfl⟩) (hu : X.A.units + 64 < cLine := by assumption) : EX X (.Call (.Attribute o "get" p) [a, b] [] pos) E O (.d ((dval kvs k).getD d)) := fun σ H R Q kk => we_of (pe_dget2 (by omega) WE.pe WE.pe WE.pe m) (by
  refine ho σ H R _ fun v H1 r1 O1 ⟨e1, e2⟩ s1 z1 => ?_
  subst e1; subst e2
  obtain rfl : v = .ref q := z1
  obtain ⟨vs0, h0, _⟩ := s1.ok.is _ hO
  refine ⟨q, rfl, .inl ⟨_, Rd.of h0⟩, ?_⟩
  refine ha σ H1 (R.step s1) _ fun v H2 r2 O2 ⟨e1, e2⟩ s2 z2 => ?_
  subst e1; subst e2
  obtain rfl := int_of z2
  refine hb σ H2 (R.step (s1.trans s2)) _ fun u H3 r3 O3 ⟨e1, e2⟩ s3 z3 => ?_
  subst e1; subst e2
  obtain ⟨vs, h1, h2⟩ := s3.ok.is _ hO
  refine ⟨valV vs (Sum.inl k), DGet.k (k := Sum.inl k) h1, kk _ H3 _ _ ⟨rfl, rfl⟩ ((s1.trans s2).trans s3) ?_⟩
  have hv := kv_val (k := k) h2
  cases hd : dval kvs k with
  | none =>
    rw [hd] at hv
    rw [show valV vs (Sum.inl k) = none from hv]
    exact z3
  | some d =>
    rw [hd] at hv
    obtain ⟨v, h3, h4⟩ := hv
    rw [h3]
    exact h4)
theorem s_dput {D : PD} {q : Addr} {kvs : List (Int × PyData)} {k : Int} {d : PyData} (ho : EX X o E O (.v (.ref q))) (ha : EX X a E O (vI k)) (hb : EX X b E O (.d d)) (hO : (q, .dic kvs) ∈ O) (hl : kvs.length < 100000)
    (h : D.nx E (setO O q (.dic (dput kvs k d)))) (hs : swapsWith b (some (.Subscript o a p)) pos.line X.env = pure false := by rfl) (hu : X.A.units + 64 < cLine := by assumption) : SG X (.Assign [.Subscript o a p] b pos) E O D := fun σ H R D' rf => ws_of (ps_dput (by omega) WE.pe WE.pe WE.pe hs) (by
  refine hb σ H R _ fun u H1 r1 O1 ⟨e1, e2⟩ s1 z1 => ?_
  subst e1; subst e2
  refine ho σ H1 (R.step s1) _ fun v H2 r2 O2 ⟨e1, e2⟩ s2 z2 => ?_
  subst e1; subst e2
  obtain rfl : v = .ref q := z2
  refine ha σ H2 (R.step (s1.trans s2)) _ fun v H3 r3 O3 ⟨e1, e2⟩ s3 z3 => ?_
  subst e1; subst e2
  obtain rfl := int_of z3
  obtain ⟨vs, h1, h2⟩ := s3.ok.is _ hO
  refine ⟨q, _, rfl, DPut.k (k := Sum.inl k) h1 (by rw [kv_len h2]; exact Nat.lt_of_lt_of_le hl (by decide)), ?_⟩
  have z1' := (s2.trans s3).sv z1
  have s4 := Stp.put (o := .dic (dput kvs k d)) (ho := .dK (putK vs (Sum.inl k) u)) s3.ok (List.mem_map_of_mem hO) (fun x e => by rw [h1] at e; cases e) ⟨_, upd_same, kv_put z1' h2⟩
  have s14 := ((s1.trans s2).trans s3).trans s4
  exact rf.nx σ _ E _ h s14 (R.step s14))
def dmerge (kvs more : List (Int × PyData)) : List (Int × PyData) := more.foldl (fun acc kv => dput acc kv.1 kv.2) kvs
theorem kv_merge {W : Hp} : ∀ {ms : List (Key × V)} {more : List (Int × PyData)}, KvR W ms more → ∀ {vs : List (Key × V)} {kvs : List (Int × PyData)}, KvR W vs kvs → KvR W (mergeK vs ms) (dmerge kvs more) := by
  intro ms more h
  induction h with
  | nil => intro vs kvs r; exact r
  | @cons p q ps qs h1 h2 ih =>
    intro vs kvs r
    obtain ⟨x, u⟩ := p
    obtain ⟨j, d⟩ := q
    obtain ⟨e, h1⟩ := h1
    obtain rfl : x = Sum.inl j := e
    exact ih (kv_put h1 r)
/-- dict(a list of pairs): one's own -/
theorem g_dict {kvs : List (Int × PyData)} (hm : X.mg "dict" = none) (ha : EX X a E O (vL (kvs.map fun kv => .tuple [.int kv.1, kv.2]))) (hg : Gl X "dict" := by rfl) (hc : X.calm = true := by rfl) (hs : starEach [a] X.env = (false, eval a X.env) :: starEach [] X.env := by rfl) (hpl : (backTo pos (starEach [] X.env)).any (·.1) = false := by rfl) : EG X (.Call (.Name "dict" p) [a] [] pos) E O fun r O' => ∃ q, r = .v (.ref q) ∧ O' = (q, .dic (dmerge [] kvs)) :: O ∧ q ∉ O.map (·.1) := fun σ H R Q k => we_of (pe_callTy (call_dictP hc) hg hm PyProof.Rows.boot_dict WA.pa (by decide) (by decide) hs hpl) (by
  refine (a_cons ha a_nil hs : EA X [a] E O [_]) σ H R _ fun us H1 rs O1 ⟨e1, e2⟩ s1 z1 => ?_
  subst e1; subst e2
  cases z1 with
  | cons z1 z2 =>
    cases z2
    obtain ⟨l, vs, rfl, h1, h2⟩ := lst_of z1
    have key : ∀ {vs : List V} {kvs : List (Int × PyData)}, DqAll (vis O1 H1) vs (kvs.map fun kv => .tuple [.int kv.1, kv.2]) → ∃ (ps : List Addr) (ks : List (Key × V)), vs = ps.map V.ref ∧ Paired (fun p kv => H1 p = some (.tup [kV kv.1, kv.2])) ps ks ∧ KvR (vis O1 H1) ks kvs := by
      intro vs kvs
      induction kvs generalizing vs with
      | nil =>
        intro h
        cases h
        exact ⟨[], [], rfl, .nil, .nil⟩
      | cons kv r ih =>
        intro h
        cases h with
        | cons h3 h4 =>
          obtain ⟨ps, ks, e1, e2, e3⟩ := ih h4
          cases h3 with
          | tup h5 h6 =>
            cases h6 with
            | cons h6 h7 =>
              cases h6
              cases h7 with
              | cons h7 h8 =>
                cases h8
                refine ⟨_ :: ps, (Sum.inl kv.1, _) :: ks, by rw [e1]; rfl, .cons ((vis_some h5).2) e2, .cons ⟨rfl, h7⟩ e3⟩
    obtain ⟨ps, ks, e1, e2, e3⟩ := key h2
    subst e1
    refine ⟨l, ps, ks, rfl, SqL.of (vis_sub _ _ _ _ h1), Paired.mapP e2 fun _ _ z => SqT.of z, fun q hq => ?_⟩
    have s2 := Stp.own (o := .dic (dmerge [] kvs)) (ho := .dK (mergeK [] ks)) s1.ok hq ⟨_, upd_same, by
      refine kv_merge (Paired.mapP e3 fun _ _ z => ⟨z.1, dp_sub (fun x u hx => ?_) _ _ z.2⟩) .nil
      obtain ⟨n, hx⟩ := vis_some hx
      refine vis_of (fun hm => ?_) (by rw [upd_ne (ne_of_none hx hq)]; exact hx)
      rcases List.mem_cons.mp hm with hm | hm
      · rw [hm, hq] at hx
        cases hx
      · exact n hm⟩
    exact k _ _ _ _ ⟨q, rfl, rfl, s1.ok.fresh hq⟩ (s1.trans s2) rfl)

/-! ### tuple(list), list(tuple), len -/
theorem x_tuple {ds : List PyData} (hm : X.mg "tuple" = none) (ha : EX X a E O (vL ds)) (hg : Gl X "tuple" := by rfl) (hs : starEach [a] X.env = (false, eval a X.env) :: starEach [] X.env := by rfl) (hpl : (backTo pos (starEach [] X.env)).any (·.1) = false := by rfl) : EX X (.Call (.Name "tuple" p) [a] [] pos) E O (vT ds) := fun σ H R Q k => we_of (pe_callTy call_tuple_of hg hm PyProof.Rows.boot_tuple WA.pa (by decide) (by decide) hs hpl) (by
  refine (a_cons ha a_nil hs : EA X [a] E O [_]) σ H R _ fun us H1 rs O1 ⟨e1, e2⟩ s1 z1 => ?_
  subst e1; subst e2
  cases z1 with
  | cons z1 z2 =>
    cases z2
    obtain ⟨l, vs, rfl, h1, h2⟩ := lst_of z1
    refine ⟨l, vs, rfl, .inl ⟨SqL.of (vis_sub _ _ _ _ h1), fun q hq => ?_⟩⟩
    have s2 := Stp.laid (o := .tup vs) s1.ok hq
    exact k _ _ _ _ ⟨rfl, rfl⟩ (s1.trans s2) (.tup (vis_laid s1.ok hq) (dpAll_sub s2.vis _ _ h2)))
theorem x_listT {ds : List PyData} (hm : X.mg "list" = none) (ha : EX X a E O (vT ds)) (hg : Gl X "list" := by rfl) (hs : starEach [a] X.env = (false, eval a X.env) :: starEach [] X.env := by rfl) (hpl : (backTo pos (starEach [] X.env)).any (·.1) = false := by rfl) : EX X (.Call (.Name "list" p) [a] [] pos) E O (vL ds) := fun σ H R Q k => we_of (pe_callTy call_list_of hg hm PyProof.Rows.boot_list WA.pa (by decide) (by decide) hs hpl) (by
  refine (a_cons ha a_nil hs : EA X [a] E O [_]) σ H R _ fun us H1 rs O1 ⟨e1, e2⟩ s1 z1 => ?_
  subst e1; subst e2
  cases z1 with
  | cons z1 z2 =>
    cases z2
    obtain ⟨l, vs, rfl, h1, h2⟩ := tup_of z1
    refine ⟨l, vs, rfl, .inr (SqT.of (vis_sub _ _ _ _ h1)), fun q hq => ?_⟩
    have s2 := Stp.laid (o := .lst vs) s1.ok hq
    exact k _ _ _ _ ⟨rfl, rfl⟩ (s1.trans s2) (.lst (vis_laid s1.ok hq) (dpAll_sub s2.vis _ _ h2)))
theorem x_lenL {ds : List PyData} (hm : X.mg "len" = none) (ha : EX X a E O (vL ds)) (hg : Gl X "len" := by rfl) (hs : starEach [a] X.env = (false, eval a X.env) :: starEach [] X.env := by rfl) (hpl : (backTo pos (starEach [] X.env)).any (·.1) = false := by rfl) : EX X (.Call (.Name "len" p) [a] [] pos) E O (vI ds.length) := fun σ H R Q k => we_of (pe_callB call_len_seq hg hm PySem.boot_len WA.pa (by decide) (by decide) hs hpl) (by
  refine (a_cons ha a_nil hs : EA X [a] E O [_]) σ H R _ fun us H1 rs O1 ⟨e1, e2⟩ s1 z1 => ?_
  subst e1; subst e2
  cases z1 with
  | cons z1 z2 =>
    cases z2
    obtain ⟨l, vs, rfl, h1, h2⟩ := lst_of z1
    refine ⟨l, vs, rfl, .inl (SqL.of (vis_sub _ _ _ _ h1)), k _ _ _ _ ⟨rfl, rfl⟩ s1 ?_⟩
    rw [dpa_len h2]
    exact .int _)
theorem x_lenT {ds : List PyData} (hm : X.mg "len" = none) (ha : EX X a E O (vT ds)) (hg : Gl X "len" := by rfl) (hs : starEach [a] X.env = (false, eval a X.env) :: starEach [] X.env := by rfl) (hpl : (backTo pos (starEach [] X.env)).any (·.1) = false := by rfl) : EX X (.Call (.Name "len" p) [a] [] pos) E O (vI ds.length) := fun σ H R Q k => we_of (pe_callB call_len_seq hg hm PySem.boot_len WA.pa (by decide) (by decide) hs hpl) (by
  refine (a_cons ha a_nil hs : EA X [a] E O [_]) σ H R _ fun us H1 rs O1 ⟨e1, e2⟩ s1 z1 => ?_
  subst e1; subst e2
  cases z1 with
  | cons z1 z2 =>
    cases z2
    obtain ⟨l, vs, rfl, h1, h2⟩ := tup_of z1
    refine ⟨l, vs, rfl, .inr (SqT.of (vis_sub _ _ _ _ h1)), k _ _ _ _ ⟨rfl, rfl⟩ s1 ?_⟩
    rw [dpa_len h2]
    exact .int _)
theorem x_lenS {ns : List Int} (hm : X.mg "len" = none) (ha : EX X a E O (.s ns)) (hg : Gl X "len" := by rfl) (hs : starEach [a] X.env = (false, eval a X.env) :: starEach [] X.env := by rfl) (hpl : (backTo pos (starEach [] X.env)).any (·.1) = false := by rfl) : EX X (.Call (.Name "len" p) [a] [] pos) E O (vI ns.length) := fun σ H R Q k => we_of (pe_callB call_len_seq hg hm PySem.boot_len WA.pa (by decide) (by decide) hs hpl) (by
  refine (a_cons ha a_nil hs : EA X [a] E O [_]) σ H R _ fun us H1 rs O1 ⟨e1, e2⟩ s1 z1 => ?_
  subst e1; subst e2
  cases z1 with
  | cons z1 z2 =>
    cases z2
    obtain ⟨l, rfl, h1⟩ := z1
    refine ⟨l, _, rfl, .inl (sub_L (vis_sub _ _) h1), k _ _ _ _ ⟨rfl, rfl⟩ s1 ?_⟩
    rw [List.length_map]
    exact .int _)
theorem x_ixS {ns : List Int} {i n : Int} (ha : EX X a E O (.s ns)) (hb : EX X b E O (vI i)) (h : atI ns i = some n) (hs : PlainIx b := by exact fun _ _ => rfl) : EX X (.Subscript a b pos) E O (vI n) :=
  x_op (pe_ix ix_list WE.pe WE.pe hs) ha hb fun x y H ok hx hy Q q => by
    obtain ⟨l, rfl, h1⟩ := hx
    refine ⟨l, _, i, .int n, rfl, int_of hy, sub_L (vis_sub _ _) h1, ?_, q _ H _ _ ⟨rfl, rfl⟩ (.refl ok) (.int n)⟩
    unfold atI at h ⊢
    rw [List.length_map]
    cases hi : ixN ns.length i with
    | none => rw [hi] at h; cases h
    | some j =>
      rw [hi] at h
      show (ns.map V.int)[j]? = some (.int n)
      rw [List.getElem?_map, show ns[j]? = some n from h]
      rfl

/-! ### sorted -/
abbrev pD (q : Int × Int) : PyData := .tuple [.int q.1, .int q.2]
def lexle (p q : Int × Int) : Prop := SrtO.lexB q p = false
theorem lexle_anti {p q : Int × Int} (h1 : lexle p q) (h2 : lexle q p) : p = q := by
  have a := SrtO.lexB_no.mp h1
  have b := SrtO.lexB_no.mp h2
  obtain ⟨p1, p2⟩ := p
  obtain ⟨q1, q2⟩ := q
  simp only at a b
  have e1 : p1 = q1 := by omega
  have e2 : p2 = q2 := by omega
  rw [e1, e2]
theorem lexle_of {p q : Int × Int} (h : p.1 < q.1 ∨ (p.1 = q.1 ∧ p.2 ≤ q.2)) : lexle p q := SrtO.lexB_no.mpr (by omega)
def keyV (H : Hp) : V → Int × Int
  | .ref t => match H t with
    | some (.tup [.int i, .int j]) => (i, j)
    | _ => (0, 0)
  | _ => (0, 0)
theorem pairs_of {W H : Hp} (s : Sub W H) : ∀ {vs : List V} {ps : List (Int × Int)}, DqAll W vs (ps.map pD) → (∀ x ∈ vs, ∃ t, x = V.ref t ∧ H t = some (.tup [.int (keyV H x).1, .int (keyV H x).2])) ∧ vs.map (keyV H) = ps
  | _, [], .nil => ⟨fun _ z => (by cases z), rfl⟩
  | _, p :: ps, .cons h t => by
    obtain ⟨h1, h2⟩ := pairs_of s t
    cases h with
    | @tup a xs _ h3 h4 =>
      cases h4 with
      | cons h4 h5 =>
        cases h4
        cases h5 with
        | cons h5 h6 =>
          cases h5
          cases h6
          have e : keyV H (.ref a) = p := by
            unfold keyV
            simp only
            rw [s _ _ h3]
          refine ⟨fun x hx => ?_, by rw [List.map_cons, e, h2]⟩
          rcases List.mem_cons.mp hx with rfl | hx
          · refine ⟨a, rfl, ?_⟩
            rw [e]
            exact s _ _ h3
          · exact h1 x hx
theorem dq_pairs {W : Hp} : ∀ {vs : List V}, (∀ x ∈ vs, ∃ t, x = V.ref t ∧ W t = some (.tup [.int (keyV W x).1, .int (keyV W x).2])) → DqAll W vs ((vs.map (keyV W)).map pD)
  | [], _ => .nil
  | x :: vs, h => by
    obtain ⟨t, rfl, h1⟩ := h x List.mem_cons_self
    exact .cons (.tup h1 (.cons (.int _) (.cons (.int _) .nil))) (dq_pairs fun y hy => h y (List.mem_cons_of_mem _ hy))
theorem x_sortedP {ps ps' : List (Int × Int)} (hm : X.mg "sorted" = none) (ha : EX X a E O (vL (ps.map pD))) (hp : ps'.Perm ps) (hs' : ps'.Pairwise lexle) (hg : Gl X "sorted" := by rfl) (hs : starEach [a] X.env = (false, eval a X.env) :: starEach [] X.env := by rfl) (hpl : (backTo pos (starEach [] X.env)).any (·.1) = false := by rfl) : EX X (.Call (.Name "sorted" p) [a] [] pos) E O (vL (ps'.map pD)) := fun σ H R Q k => we_of (pe_callB cr_sortedPO hg hm PyProof.Rows.boot_sorted WA.pa (by decide) (by decide) hs hpl) (by
  refine (a_cons ha a_nil hs : EA X [a] E O [_]) σ H R _ fun us H1 rs O1 ⟨e1, e2⟩ s1 z1 => ?_
  subst e1; subst e2
  cases z1 with
  | cons z1 z2 =>
    cases z2
    obtain ⟨l, vs, rfl, h1, h2⟩ := lst_of z1
    obtain ⟨h3, h4⟩ := pairs_of (Sub.refl _) h2
    have hk : ∀ x ∈ vs, keyV H1 x = keyV (vis O1 H1) x := fun x hx => by
      obtain ⟨t, rfl, h5⟩ := h3 x hx
      unfold keyV
      simp only
      rw [h5, vis_sub _ _ _ _ h5]
    refine ⟨l, vs, keyV (vis O1 H1), rfl, SqL.of (vis_sub _ _ _ _ h1), fun x hx => ?_, fun ys q hy1 hy2 hq => ?_⟩
    · obtain ⟨t, e, h5⟩ := h3 x hx
      exact ⟨t, e, vis_sub _ _ _ _ h5⟩
    · have hperm := hy2.perm
      have e : ys.map (keyV (vis O1 H1)) = ps' := by
        refine List.Perm.eq_of_pairwise (le := lexle) (fun a b _ _ => lexle_anti) ?_ hs' ((hperm.map _).trans (by rw [h4]; exact hp.symm))
        rw [List.pairwise_map]
        exact hy1
      have s2 := Stp.laid (o := .lst ys) s1.ok hq
      refine k _ _ _ _ ⟨rfl, rfl⟩ (s1.trans s2) (.lst (vis_laid s1.ok hq) ?_)
      rw [← e]
      exact dpAll_sub s2.vis _ _ (dq_pairs fun x hx => h3 x (hperm.mem_iff.mp hx)))
theorem x_sortedI {ns ns' : List Int} (hm : X.mg "sorted" = none) (ha : EX X a E O (vL (ns.map .int))) (hp : ns'.Perm ns) (hs' : ns'.Pairwise (· ≤ ·)) (hg : Gl X "sorted" := by rfl) (hs : starEach [a] X.env = (false, eval a X.env) :: starEach [] X.env := by rfl) (hpl : (backTo pos (starEach [] X.env)).any (·.1) = false := by rfl) : EX X (.Call (.Name "sorted" p) [a] [] pos) E O (vL (ns'.map .int)) := fun σ H R Q k => we_of (pe_callB cr_sortedI hg hm PyProof.Rows.boot_sorted WA.pa (by decide) (by decide) hs hpl) (by
  refine (a_cons ha a_nil hs : EA X [a] E O [_]) σ H R _ fun us H1 rs O1 ⟨e1, e2⟩ s1 z1 => ?_
  subst e1; subst e2
  cases z1 with
  | cons z1 z2 =>
    cases z2
    obtain ⟨l, vs, rfl, h1, h2⟩ := lst_of z1
    obtain rfl := dpa_ofInts h2
    refine ⟨l, ns, rfl, SqL.of (vis_sub _ _ _ _ h1), fun ys q hy1 hy2 hq => ?_⟩
    have e : ys = ns' := List.Perm.eq_of_pairwise (le := (· ≤ ·)) (fun a b _ _ h1 h2 => Int.le_antisymm h1 h2) hy2 hs' (hy1.trans hp.symm)
    subst e
    have s2 := Stp.laid (o := .lst (ys.map V.int)) s1.ok hq
    exact k _ _ _ _ ⟨rfl, rfl⟩ (s1.trans s2) (.lst (vis_laid s1.ok hq) dpa_ints))
end
end Py
namespace Rg

/-! ### the turn -/
def tn (w s : Nat) : Nat := w / Nat.gcd w s
theorem gcd_pos {w s : Nat} (hw : 0 < w) : 0 < Nat.gcd w s := Nat.gcd_pos_of_pos_left _ hw
theorem tn_pos {w s : Nat} (hw : 0 < w) : 0 < tn w s := Nat.div_pos (Nat.le_of_dvd hw (Nat.gcd_dvd_left w s)) (gcd_pos hw)
theorem tn_le (w s : Nat) : tn w s ≤ w := Nat.div_le_self _ _
theorem tn_mul (w s : Nat) : tn w s * Nat.gcd w s = w := Nat.div_mul_cancel (Nat.gcd_dvd_left w s)
theorem mul_mod_zero {w s k : Nat} (hw : 0 < w) : k * s % w = 0 ↔ tn w s ∣ k := by
  have hg := gcd_pos (s := s) hw
  have e1 : w = tn w s * Nat.gcd w s := (tn_mul w s).symm
  have e2 : s = s / Nat.gcd w s * Nat.gcd w s := (Nat.div_mul_cancel (Nat.gcd_dvd_right w s)).symm
  have cop : (tn w s).Coprime (s / Nat.gcd w s) := Nat.coprime_div_gcd_div_gcd hg
  rw [← Nat.dvd_iff_mod_eq_zero]
  constructor
  · intro h
    have h2 : tn w s * Nat.gcd w s ∣ k * (s / Nat.gcd w s) * Nat.gcd w s := by
      rw [Nat.mul_assoc, ← e2, ← e1]
      exact h
    exact cop.dvd_of_dvd_mul_right (Nat.dvd_of_mul_dvd_mul_right hg h2)
  · rintro ⟨c, rfl⟩
    refine ⟨c * (s / Nat.gcd w s), ?_⟩
    have key : ∀ t g q : Nat, t * c * (q * g) = t * g * (c * q) := fun t g q => by
      simp only [Nat.mul_assoc, Nat.mul_comm, Nat.mul_left_comm]
    have k1 := key (tn w s) (Nat.gcd w s) (s / Nat.gcd w s)
    rw [← e2, ← e1] at k1
    exact k1
theorem mod_eq_iff {w s i j : Nat} (hw : 0 < w) (h : i ≤ j) : i * s % w = j * s % w ↔ tn w s ∣ j - i := by
  rw [← mul_mod_zero hw, Nat.sub_mul]
  have hle : i * s ≤ j * s := Nat.mul_le_mul_right s h
  constructor
  · intro e
    exact Nat.sub_mod_eq_zero_of_mod_eq e.symm
  · intro e
    have e1 : j * s = i * s + (j * s - i * s) := by omega
    rw [e1, Nat.add_mod, e, Nat.add_zero, Nat.mod_mod]
theorem pl_inj {w s i j : Nat} (hw : 0 < w) (hi : i < tn w s) (hj : j < tn w s) (e : i * s % w = j * s % w) : i = j := by
  rcases Nat.le_total i j with h | h
  · have := Nat.eq_zero_of_dvd_of_lt ((mod_eq_iff hw h).mp e) (by omega)
    omega
  · have := Nat.eq_zero_of_dvd_of_lt ((mod_eq_iff hw h).mp e.symm) (by omega)
    omega
/-- the first k from 1 on with k * s a multiple of w -/
theorem turn_head {w s : Nat} (hw : 0 < w) : ((List.range w).filter fun i => (1 + i) * s % w == 0)[0]? = some (tn w s - 1) := by
  have h1 := tn_pos (s := s) hw
  have h2 := tn_le w s
  rw [← List.head?_eq_getElem?, List.head?_filter, List.find?_range_eq_some]
  refine ⟨?_, by simp; omega, fun j hj => ?_⟩
  · rw [beq_iff_eq, mul_mod_zero hw]
    exact ⟨1, by omega⟩
  · simp only [Bool.not_eq_true', beq_eq_false_iff_ne, ne_eq]
    rw [mul_mod_zero hw]
    intro h
    have := Nat.le_of_dvd (by omega) h
    omega

theorem step_wrap {w s i : Nat} (hs : s < w) : (i + 1) * s % w = if w ≤ i * s % w + s then i * s % w + s - w else i * s % w + s := by
  have hlt := Nat.mod_lt (i * s) (show 0 < w by omega)
  rw [Nat.add_mul, Nat.one_mul, Nat.add_mod, Nat.mod_eq_of_lt hs]
  split
  · rw [Nat.mod_eq_sub_mod (by assumption), Nat.mod_eq_of_lt (by omega)]
  · rw [Nat.mod_eq_of_lt (by omega)]
/-! ### which point lies at a place -/
def idx (w s m h : Nat) : Option Nat := (List.range m).find? fun k => k * s % w == h
theorem idx_some {w s m h k : Nat} (hw : 0 < w) (hm : m ≤ tn w s) : idx w s m h = some k ↔ k < m ∧ k * s % w = h := by
  unfold idx
  rw [List.find?_range_eq_some]
  constructor
  · rintro ⟨h1, h2, _⟩
    exact ⟨by simpa using h2, by simpa using h1⟩
  · rintro ⟨h1, rfl⟩
    refine ⟨by simp, by simpa using h1, fun j hj => ?_⟩
    simp only [Bool.not_eq_true', beq_eq_false_iff_ne, ne_eq]
    intro e
    have := pl_inj hw (by omega) (by omega) e
    omega
theorem idx_none {w s m h : Nat} : idx w s m h = none ↔ ∀ k, k < m → k * s % w ≠ h := by
  unfold idx
  rw [List.find?_range_eq_none]
  simp
theorem idx_succ {w s m h : Nat} (hw : 0 < w) (hm : m + 1 ≤ tn w s) : idx w s (m + 1) h = if h = m * s % w then some m else idx w s m h := by
  by_cases e : h = m * s % w
  · rw [if_pos e]
    exact (idx_some hw hm).mpr ⟨by omega, e.symm⟩
  · rw [if_neg e]
    cases q : idx w s m h with
    | none =>
      rw [idx_none] at q ⊢
      intro k hk
      by_cases hkm : k = m
      · subst hkm
        exact fun z => e z.symm
      · exact q k (by omega)
    | some k =>
      obtain ⟨h1, h2⟩ := (idx_some hw (by omega)).mp q
      exact (idx_some hw hm).mpr ⟨by omega, h2⟩

/-! ### the points round the ring -/
def ordP (w s m : Nat) : List (Nat × Nat) := (List.range w).filterMap fun h => (idx w s m h).map fun k => (h, k)
def ordL (w s m : Nat) : List Nat := (ordP w s m).map (·.2)
theorem mem_ordP {w s m : Nat} (hw : 0 < w) (hm : m ≤ tn w s) {p : Nat × Nat} : p ∈ ordP w s m ↔ p.2 < m ∧ p.1 = p.2 * s % w := by
  unfold ordP
  rw [List.mem_filterMap]
  constructor
  · rintro ⟨h, hh, e⟩
    obtain ⟨k, e1, rfl⟩ := Option.map_eq_some_iff.mp e
    obtain ⟨h1, h2⟩ := (idx_some hw hm).mp e1
    exact ⟨h1, h2.symm⟩
  · rintro ⟨h1, h2⟩
    obtain ⟨h, k⟩ := p
    simp only at h1 h2
    subst h2
    refine ⟨k * s % w, by simpa using Nat.mod_lt _ hw, ?_⟩
    rw [(idx_some hw hm).mpr ⟨h1, rfl⟩]
    rfl
theorem ordP_sorted (w s m : Nat) : (ordP w s m).Pairwise fun p q => p.1 < q.1 := by
  unfold ordP
  refine List.Pairwise.filterMap _ (fun a a' h b hb b' hb' => ?_) List.pairwise_lt_range
  obtain ⟨_, _, rfl⟩ := Option.map_eq_some_iff.mp hb
  obtain ⟨_, _, rfl⟩ := Option.map_eq_some_iff.mp hb'
  exact h
theorem nodup_of_lt {l : List (Nat × Nat)} (h : l.Pairwise fun p q => p.1 < q.1) : l.Nodup := h.imp fun {a b} z e => by rw [e] at z; exact Nat.lt_irrefl _ z
theorem ordP_perm {w s m : Nat} (hw : 0 < w) (hm : m ≤ tn w s) : (ordP w s m).Perm ((List.range m).map fun k => (k * s % w, k)) := by
  rw [List.perm_ext_iff_of_nodup (nodup_of_lt (ordP_sorted w s m))]
  · intro p
    rw [mem_ordP hw hm, List.mem_map]
    constructor
    · rintro ⟨h1, h2⟩
      exact ⟨p.2, by simpa using h1, by rw [← h2]⟩
    · rintro ⟨k, hk, rfl⟩
      exact ⟨by simpa using hk, rfl⟩
  · refine List.Pairwise.map _ (fun a b h e => h ?_) List.nodup_range
    exact (Prod.mk.inj e).2
theorem ordP_len {w s m : Nat} (hw : 0 < w) (hm : m ≤ tn w s) : (ordP w s m).length = m := by
  rw [(ordP_perm hw hm).length_eq]
  simp
theorem ordL_perm {w s m : Nat} (hw : 0 < w) (hm : m ≤ tn w s) : (ordL w s m).Perm (List.range m) := by
  unfold ordL
  have h := (ordP_perm hw hm).map (·.2)
  rw [List.map_map] at h
  have e : ((fun x : Nat × Nat => x.2) ∘ fun k => (k * s % w, k)) = id := rfl
  rwa [e, List.map_id] at h
theorem ordP_eq {w s m : Nat} (hw : 0 < w) (hm : m ≤ tn w s) : ordP w s m = (ordL w s m).map fun k => (k * s % w, k) := by
  unfold ordL
  rw [List.map_map]
  conv => lhs; rw [← List.map_id (ordP w s m)]
  apply List.map_congr_left
  intro p hp
  obtain ⟨_, h2⟩ := (mem_ordP hw hm).mp hp
  show p = (p.2 * s % w, p.2)
  rw [← h2]
theorem ordP_filter (w s m : Nat) : ((List.range w).filter fun i => (idx w s m i).isSome).map (fun i => (i, (idx w s m i).getD 0)) = ordP w s m := by
  unfold ordP
  induction List.range w with
  | nil => rfl
  | cons a r ih =>
    rw [List.filterMap_cons, List.filter_cons]
    cases q : idx w s m a with
    | none => simpa [q] using ih
    | some k => simp [q, ih]
end Rg
namespace Py
open PySem PySem.Spec PyProof.Rows L2 Rg
/-! what each def is worth -/
def cellN (ns : List Int) (k : Nat) : Int := (ns[k]?).getD 0
def T__law_cell_at : FSpec := fun rs O Φ => ∃ (ns : List Int) (k : Nat), rs = [.s ns, vI k] ∧ Φ (vI (cellN ns k)) O
def mixD (ns : List Int) (k : Nat) : Int := (cellN ns k + 7919 * k + 1) * 48271 % 2147483647
def mixI (ns : List Int) (k : Nat) : Int := (mixD ns k * mixD ns k + 7 * mixD ns k + k) % 2147483629
def mixN (ns : List Int) (k : Nat) : Nat := (mixI ns k).toNat
theorem mixD_lt (ns : List Int) (k : Nat) : 0 ≤ mixD ns k ∧ mixD ns k < 2147483647 := by unfold mixD; omega
theorem mixN_cast (ns : List Int) (k : Nat) : (mixN ns k : Int) = mixI ns k := by
  unfold mixN mixI
  omega
theorem mixN_lt (ns : List Int) (k : Nat) : mixN ns k < 2147483629 := by
  have h := mixN_cast ns k
  unfold mixI at h
  omega
def T__law_mixed : FSpec := fun rs O Φ => ∃ (ns : List Int) (k : Nat), rs = [.s ns, vI k] ∧ Φ (vI (mixN ns k)) O
def drawD (n : Nat) (k : Nat) : Nat := (n + 104729 * k + 17) * 69621 % 2147483647
def drawN (n : Nat) (k : Nat) : Nat := (drawD n k * drawD n k + 3 * drawD n k + k) % 2147483629
theorem drawN_lt (n k : Nat) : drawN n k < 2147483629 := Nat.mod_lt _ (by decide)
def T__law_drawn : FSpec := pure1 fun ds d => ∃ n k : Nat, ds = [.int n, .int k] ∧ d = .int (drawN n k)
def T__law_turn : FSpec := pure1 fun ds d => ∃ w s : Nat, 0 < w ∧ w ≤ 1000 ∧ s ≤ 1000 ∧ ds = [.int w, .int s] ∧ d = .int (tn w s)
def prW (n most : Nat) : Nat := 2 + n % (most - 1)
def prS (n most : Nat) : Nat := 1 + n / 128 % (prW n most - 1)
def prM (n most : Nat) : Nat := 1 + n / 16384 % tn (prW n most) (prS n most)
theorem prW_b {n most : Nat} (h : 2 ≤ most) : 2 ≤ prW n most ∧ prW n most ≤ most := by
  unfold prW
  have := Nat.mod_lt n (show 0 < most - 1 by omega)
  omega
theorem prS_b {n most : Nat} (h : 2 ≤ most) : 1 ≤ prS n most ∧ prS n most < prW n most := by
  have h1 := prW_b (n := n) h
  unfold prS
  have := Nat.mod_lt (n / 128) (show 0 < prW n most - 1 by omega)
  omega
theorem prM_b {n most : Nat} (h : 2 ≤ most) : 1 ≤ prM n most ∧ prM n most ≤ tn (prW n most) (prS n most) := by
  have h1 := prW_b (n := n) h
  unfold prM
  have := Nat.mod_lt (n / 16384) (tn_pos (w := prW n most) (s := prS n most) (by omega))
  omega
def T__law_pair : FSpec := pure1 fun ds d => ∃ n most : Nat, 2 ≤ most ∧ most ≤ 1000 ∧ ds = [.int n, .int most] ∧ d = .tuple [.int (prW n most), .int (prS n most)]
def rowD (w s m : Nat) : PyData := .tuple [.int w, .int s, .int m]
def T__law_row : FSpec := pure1 fun ds d => ∃ n most : Nat, 2 ≤ most ∧ most ≤ 1000 ∧ ds = [.int n, .int most] ∧ d = rowD (prW n most) (prS n most) (prM n most)
structure Row (w s m : Nat) : Prop where
  w1 : w ≤ 1000
  s0 : 1 ≤ s
  sw : s < w
  m0 : 1 ≤ m
  m1 : m ≤ tn w s
theorem Row.w0 {w s m : Nat} (h : Row w s m) : 0 < w := Nat.lt_of_le_of_lt (Nat.zero_le _) h.sw
theorem Row.s1 {w s m : Nat} (h : Row w s m) : s ≤ 1000 := Nat.le_trans (Nat.le_of_lt h.sw) h.w1
theorem Row.mw {w s m : Nat} (h : Row w s m) : m ≤ w := Nat.le_trans h.m1 (tn_le w s)
theorem pr_row {n most : Nat} (h : 2 ≤ most) (h2 : most ≤ 1000) : Row (prW n most) (prS n most) (prM n most) := by
  have a := prW_b (n := n) h
  have b := prS_b (n := n) h
  have c := prM_b (n := n) h
  exact ⟨by omega, b.1, b.2, c.1, c.2⟩
abbrev nD (n : Nat) : PyData := .int n
abbrev npD (p : Nat × Nat) : PyData := .tuple [.int p.1, .int p.2]
abbrev ipD (p : Nat × Nat) : Int × Int := (p.1, p.2)
def T_place : FSpec := pure1 fun ds d => ∃ w s m k : Nat, 0 < w ∧ w ≤ 1000 ∧ s ≤ 1000 ∧ ds = [rowD w s m, .int k] ∧ d = .int ((k * s % w : Nat) : Int)
def T_order : FSpec := pure1 fun ds d => ∃ w s m : Nat, Row w s m ∧ ds = [rowD w s m] ∧ d = .tuple ((ordL w s m).map nD)
def oD : Option Nat → PyData
  | some n => .int n
  | none => .none
def T_who : FSpec := pure1 fun ds d => ∃ w s m h : Nat, Row w s m ∧ ds = [rowD w s m, .int h] ∧ d = oD (idx w s m h)
def T__law_order : FSpec := pure1 fun ds d => ∃ w s m : Nat, Row w s m ∧ ds = [rowD w s m] ∧ d = .list ((ordP w s m).map npD)

theorem beq_nat {i : Int} (n m : Nat) (h : i = (n : Int)) : (i == (m : Int)) = (n == m) := by
  subst h
  simp only [Bool.beq_eq_decide_eq]
  congr 1
  simp only [eq_iff_iff]
  omega
/-! dicts -/
theorem dval_nil (k : Int) : dval [] k = none := rfl
theorem dval_cons (j : Int) (d : PyData) (kvs : List (Int × PyData)) (k : Int) : dval ((j, d) :: kvs) k = if j = k then some d else dval kvs k := by
  unfold dval
  rw [List.find?_cons]
  by_cases h : j = k
  · simp [h]
  · simp [h]
theorem dval_any (kvs : List (Int × PyData)) (k : Int) : (kvs.any fun kv => decide (kv.1 = k)) = (dval kvs k).isSome := by
  induction kvs with
  | nil => rfl
  | cons p r ih =>
    obtain ⟨j, d⟩ := p
    rw [List.any_cons, dval_cons, ih]
    by_cases h : j = k
    · simp [h]
    · simp [h]
theorem dval_app (kvs : List (Int × PyData)) (k : Int) (v : PyData) (j : Int) : dval (kvs ++ [(k, v)]) j = (dval kvs j).or (if k = j then some v else none) := by
  induction kvs with
  | nil => rw [List.nil_append, dval_cons, dval_nil]; simp
  | cons p r ih =>
    obtain ⟨i, d⟩ := p
    rw [List.cons_append, dval_cons, dval_cons, ih]
    split <;> simp
theorem dval_repl (kvs : List (Int × PyData)) (k : Int) (v : PyData) (j : Int) : dval (kvs.map fun kv => if kv.1 = k then (kv.1, v) else kv) j = (dval kvs j).map fun x => if j = k then v else x := by
  induction kvs with
  | nil => rfl
  | cons p r ih =>
    obtain ⟨i, d⟩ := p
    rw [List.map_cons]
    by_cases h : i = k
    · subst h
      simp only [if_true]
      rw [dval_cons, dval_cons, ih]
      by_cases hj : i = j
      · subst hj; simp
      · simp [hj]
    · simp only [if_neg h]
      rw [dval_cons, dval_cons, ih]
      by_cases hj : i = j
      · subst hj; simp [h]
      · simp [hj]
theorem dval_put (kvs : List (Int × PyData)) (k : Int) (v : PyData) (j : Int) : dval (dput kvs k v) j = if j = k then some v else dval kvs j := by
  unfold dput
  rw [dval_any]
  by_cases h : (dval kvs k).isSome = true
  · rw [if_pos h, dval_repl]
    by_cases hj : j = k
    · subst hj
      obtain ⟨x, hx⟩ := Option.isSome_iff_exists.mp h
      simp [hx]
    · simp [hj]
  · rw [if_neg h, dval_app]
    by_cases hj : j = k
    · subst hj
      have : dval kvs j = none := by
        cases q : dval kvs j with
        | none => rfl
        | some x => rw [q] at h; simp at h
      simp [this]
    · have hj' : ¬ k = j := fun z => hj z.symm
      simp [hj, hj']
theorem dmerge_val : ∀ (more kvs : List (Int × PyData)) (j : Int), (more.map (·.1)).Nodup → (∀ k ∈ more.map (·.1), dval kvs k = none) → dval (dmerge kvs more) j = (dval more j).or (dval kvs j)
  | [], kvs, j, _, _ => by simp [dmerge, dval_nil]
  | (k, v) :: more, kvs, j, hn, hd => by
    have hn' := List.nodup_cons.mp hn
    have e : dmerge kvs ((k, v) :: more) = dmerge (dput kvs k v) more := rfl
    rw [e, dmerge_val more (dput kvs k v) j hn'.2 (fun i hi => ?_), dval_put, dval_cons]
    · by_cases hj : j = k
      · subst hj
        have : dval more j = none := by
          cases q : dval more j with
          | none => rfl
          | some x =>
            exfalso
            apply hn'.1
            have h2 : (more.any fun kv => decide (kv.1 = j)) = true := by rw [dval_any, q]; rfl
            obtain ⟨p, hp, e⟩ := List.any_eq_true.mp h2
            exact List.mem_map.mpr ⟨p, hp, by simpa using e⟩
        simp [this]
      · have hj' : ¬ k = j := fun z => hj z.symm
        simp [hj, hj']
    · rw [dval_put, if_neg (fun z => hn'.1 (by rw [← z]; exact hi))]
      exact hd i (List.mem_cons_of_mem _ hi)
theorem dval_ordP {w s m : Nat} (hw : 0 < w) (hm : m ≤ tn w s) (hh : Nat) : dval ((ordP w s m).map fun p => ((p.1 : Int), nD p.2)) hh = (idx w s m hh).map nD := by
  have key : ∀ l : List (Nat × Nat), (∀ p ∈ l, idx w s m p.1 = some p.2) → (∀ k, idx w s m hh = some k → (hh, k) ∈ l) → dval (l.map fun p => ((p.1 : Int), nD p.2)) hh = (idx w s m hh).map nD := by
    intro l
    induction l with
    | nil =>
      intro _ h2
      cases q : idx w s m hh with
      | none => rfl
      | some k => exact absurd (h2 k q) (by simp)
    | cons p r ih =>
      intro h1 h2
      rw [List.map_cons, dval_cons]
      by_cases e : p.1 = hh
      · rw [if_pos (by omega), ← e, h1 p List.mem_cons_self]
        rfl
      · rw [if_neg (by omega)]
        refine ih (fun p hp => h1 p (List.mem_cons_of_mem _ hp)) fun k hk => ?_
        rcases List.mem_cons.mp (h2 k hk) with z | z
        · exact absurd (by rw [← z]) e
        · exact z
  refine key _ (fun p hp => ?_) fun k hk => ?_
  · obtain ⟨h1, h2⟩ := (mem_ordP hw hm).mp hp
    exact (idx_some hw hm).mpr ⟨h1, h2.symm⟩
  · obtain ⟨h1, h2⟩ := (idx_some hw hm).mp hk
    exact (mem_ordP hw hm).mpr ⟨h1, h2.symm⟩
/-! data that may be compared -/
def sh (n : Nat) (d : PyData) : Prop := d.canLay0 = true ∧ d.depth ≤ n
theorem sh_int (n : Nat) (i : Int) : sh n (.int i) := ⟨rfl, Nat.zero_le _⟩
theorem sh_non (n : Nat) : sh n .none := ⟨rfl, Nat.zero_le _⟩
theorem sh_bool (n : Nat) (b : Bool) : sh n (.bool b) := ⟨rfl, Nat.zero_le _⟩
theorem sh_mono {n m : Nat} {d : PyData} (h : sh n d) (hm : n ≤ m) : sh m d := ⟨h.1, Nat.le_trans h.2 hm⟩
theorem sh_all {n : Nat} : ∀ {xs : List PyData}, (∀ x ∈ xs, sh n x) → PyData.canLayAll0 xs = true ∧ PyData.depthAll xs ≤ n
  | [], _ => ⟨rfl, Nat.zero_le _⟩
  | x :: xs, h => by
    obtain ⟨h1, h2⟩ := sh_all (xs := xs) fun y hy => h y (List.mem_cons_of_mem _ hy)
    obtain ⟨h3, h4⟩ := h x List.mem_cons_self
    refine ⟨?_, ?_⟩
    · show (PyData.canLay0 x && PyData.canLayAll0 xs) = true
      rw [h1, h3]
      rfl
    · show max (PyData.depth x) (PyData.depthAll xs) ≤ n
      omega
theorem sh_tup {n : Nat} {xs : List PyData} (h : ∀ x ∈ xs, sh n x) : sh (n + 1) (.tuple xs) := ⟨(sh_all h).1, Nat.succ_le_succ (sh_all h).2⟩
theorem sh_lst {n : Nat} {xs : List PyData} (h : ∀ x ∈ xs, sh n x) : sh (n + 1) (.list xs) := ⟨(sh_all h).1, Nat.succ_le_succ (sh_all h).2⟩
theorem sh_ints {n : Nat} (l : List Int) : sh (n + 1) (.tuple (l.map .int)) := sh_tup fun x hx => by
  obtain ⟨i, _, rfl⟩ := List.mem_map.mp hx
  exact sh_int _ _
theorem sh_nats {n : Nat} (l : List Nat) : sh (n + 1) (.tuple (l.map nD)) := sh_tup fun x hx => by
  obtain ⟨i, _, rfl⟩ := List.mem_map.mp hx
  exact sh_int _ _
theorem shaped_of {n : Nat} {d : PyData} (h : sh n d) (hn : n ≤ 64) : SeqAt.shaped d = true := by
  unfold SeqAt.shaped
  rw [h.1, decide_eq_true (Nat.le_trans h.2 hn)]
  rfl
theorem eqv_rfl {n : Nat} {d : PyData} (h : sh n d) : PyData.eqv d d = true := SeqAt.eqv_refl d h.1
section
variable {X : Cx} {a b : Expr} {E : En} {O : Own} {pos : Pos}
/-- == and != of data that are the same -/
theorem c_eqT {d : PyData} (ha : EX X a E O (.d d)) (hb : EX X b E O (.d d)) (h : sh 8 d) (hu : X.A.units + 64 < cLine := by assumption) : CX1 X .Eq a b E O true :=
  (c_eqD ha hb (shaped_of h (by decide)) (shaped_of h (by decide)) hu).cast (eqv_rfl h)
theorem c_neF {d : PyData} (ha : EX X a E O (.d d)) (hb : EX X b E O (.d d)) (h : sh 8 d) (hu : X.A.units + 64 < cLine := by assumption) : CX1 X .NotEq a b E O false :=
  (c_neD ha hb (shaped_of h (by decide)) (shaped_of h (by decide)) hu).cast (by rw [eqv_rfl h]; rfl)
end
end Py
namespace Py.R
open PySem PySem.Spec PyProof.Rows L2 Py Rg
def topS (i : Nat) : Stmt := PySem.Challenge.pw_ringgaps_k10_points.main.body.getD i (.Pass ⟨0, 0, 0, 0⟩)
abbrev s__law_cell_at : Stmt := topS 5
abbrev n__law_cell_at : List Str := ["script", "k"]
theorem sc__law_cell_at : FnScope n__law_cell_at ["script", "k"] (defScope s__law_cell_at) := ⟨rfl, rfl, rfl, by decide +kernel, rfl, by decide +kernel, by decide +kernel⟩
abbrev s__law_mixed : Stmt := topS 6
abbrev n__law_mixed : List Str := ["script", "k", "drawn"]
theorem sc__law_mixed : FnScope n__law_mixed ["script", "k"] (defScope s__law_mixed) := ⟨rfl, rfl, rfl, by decide +kernel, rfl, by decide +kernel, by decide +kernel⟩
abbrev s__law_pair : Stmt := topS 9
abbrev n__law_pair : List Str := ["number", "most", "whole", "step"]
theorem sc__law_pair : FnScope n__law_pair ["number", "most"] (defScope s__law_pair) := ⟨rfl, rfl, rfl, by decide +kernel, rfl, by decide +kernel, by decide +kernel⟩
abbrev s__law_turn : Stmt := topS 8
abbrev n__law_turn : List Str := ["whole", "step", "k"]
theorem sc__law_turn : FnScope n__law_turn ["whole", "step"] (defScope s__law_turn) := ⟨rfl, rfl, rfl, by decide +kernel, rfl, by decide +kernel, by decide +kernel⟩
abbrev s__law_row : Stmt := topS 10
abbrev n__law_row : List Str := ["number", "most", "whole", "step"]
theorem sc__law_row : FnScope n__law_row ["number", "most"] (defScope s__law_row) := ⟨rfl, rfl, rfl, by decide +kernel, rfl, by decide +kernel, by decide +kernel⟩
abbrev s_place : Stmt := topS 1
abbrev n_place : List Str := ["row", "k"]
theorem sc_place : FnScope n_place ["row", "k"] (defScope s_place) := ⟨rfl, rfl, rfl, by decide +kernel, rfl, by decide +kernel, by decide +kernel⟩
abbrev s_order : Stmt := topS 2
abbrev n_order : List Str := ["row", "here", "k"]
theorem sc_order : FnScope n_order ["row"] (defScope s_order) := ⟨rfl, rfl, rfl, by decide +kernel, rfl, by decide +kernel, by decide +kernel⟩
abbrev s_who : Stmt := topS 3
abbrev n_who : List Str := ["row", "here", "k"]
theorem sc_who : FnScope n_who ["row", "here"] (defScope s_who) := ⟨rfl, rfl, rfl, by decide +kernel, rfl, by decide +kernel, by decide +kernel⟩
abbrev s__law_order : Stmt := topS 11
abbrev n__law_order : List Str := ["row", "whole", "step", "many", "book", "k", "here"]
theorem sc__law_order : FnScope n__law_order ["row"] (defScope s__law_order) := ⟨rfl, rfl, rfl, by decide +kernel, rfl, by decide +kernel, by decide +kernel⟩
abbrev s_law : Stmt := topS 13
abbrev n_law : List Str := ["script", "row", "whole", "step", "many", "here", "k", "some", "book"]
theorem sc_law : FnScope n_law ["script"] (defScope s_law) := ⟨rfl, rfl, rfl, by decide +kernel, rfl, by decide +kernel, by decide +kernel⟩
section
variable {P : Program} {w : World} {K : PySem.W.Frag} {mg : Str → Option Value} {base : Heap}
-- slots: 0 script, 1 k
theorem f__law_cell_at (H__law_cell_at : Has K mg "_law_cell_at" s__law_cell_at) (b_len : mg "len" = none) : Fn P w K mg base "_law_cell_at" 1 T__law_cell_at := by
  refine fn_mk2 H__law_cell_at sc__law_cell_at (fun _ _ _ _ _ _ us hl => match us, hl with | [_, _], _ => rfl) ?_ ?_
  · rintro rs O Φ ⟨ns, k, rfl, h⟩
    rfl
  · rintro f cdv A outer s H E rs O Φ hr ⟨ns, k, rfl, h⟩
    refine sb_cons (s_if (tc (c_lt (x_var 1) (x_lenS b_len (x_var 0)))) (fun hk => ?_) (fun hk => ?_))
    · have hk' : k < ns.length := by simpa using hk
      refine sb_cons (s_ret (x_ixS (n := ns[k]) (x_var 0) (x_var 1) ?_) ?_)
      · exact atI_nat (List.getElem?_eq_getElem hk')
      · have e : cellN ns k = ns[k] := by unfold cellN; rw [List.getElem?_eq_getElem hk']; rfl
        rw [e] at h
        exact h
    · have hk' : ns.length ≤ k := by simpa using hk
      refine sb_nil (sb_cons (s_ret x_int ?_))
      have e : cellN ns k = 0 := by unfold cellN; rw [List.getElem?_eq_none hk']; rfl
      rw [e] at h
      exact h
-- slots: 0 script, 1 k, 2 drawn
theorem f__law_mixed (H__law_mixed : Has K mg "_law_mixed" s__law_mixed) (F__law_cell_at : Fn P w K mg base "_law_cell_at" 1 T__law_cell_at) : Fn P w K mg base "_law_mixed" 2 T__law_mixed := by
  refine fn_mk2 H__law_mixed sc__law_mixed (fun _ _ _ _ _ _ us hl => match us, hl with | [_, _], _ => rfl) ?_ ?_
  · rintro rs O Φ ⟨ns, k, rfl, h⟩
    rfl
  · rintro f cdv A outer s H E rs O Φ hr ⟨ns, k, rfl, h⟩
    have hd := mixD_lt ns k
    refine sb_cons (s_set 2 sc__law_mixed.nd (r := vI (mixD ns k)) (x_mod (x_mul (x_add (x_add (g_call F__law_cell_at hr (a_cons (x_var 0) (a_cons (x_var 1) a_nil)) ⟨ns, k, rfl, rfl, rfl⟩) (x_mul x_int (x_var 1) (.inl (by decide)))) x_int) x_int (.inr (by decide))) x_int (by decide)) ?_)
    refine sb_cons (s_ret (x_mod (x_add (x_add (x_mul (x_var 2) (x_var 2) (.inl (by omega))) (x_mul x_int (x_var 2) (.inl (by decide)))) (x_var 1)) x_int (by decide)) ?_)
    rw [mixN_cast] at h
    exact h
-- slots: 0 number, 1 most, 2 whole, 3 step
theorem f__law_pair (H__law_pair : Has K mg "_law_pair" s__law_pair) : Fn P w K mg base "_law_pair" 1 T__law_pair := by
  refine fn_mk2 H__law_pair sc__law_pair (fun _ _ _ _ _ _ us hl => match us, hl with | [_, _], _ => rfl) ?_ ?_
  · rintro rs O Φ ⟨ds, d, rfl, ⟨n, most, h1, h2, rfl, rfl⟩, h⟩
    rfl
  · rintro f cdv A outer s0 H E rs O Φ hr ⟨ds, d, rfl, ⟨n, most, h1, h2, rfl, rfl⟩, h⟩
    have hw := prW_b (n := n) h1
    have e1 : (2 : Int) + (n : Int) % ((most : Int) - 1) = (prW n most : Int) := by
      unfold prW
      have : ((most : Int) - 1) = ((most - 1 : Nat) : Int) := by omega
      rw [this]
      push_cast
      rfl
    have e2 : (1 : Int) + (n : Int) / 128 % ((prW n most : Int) - 1) = (prS n most : Int) := by
      unfold prS
      have : ((prW n most : Int) - 1) = ((prW n most - 1 : Nat) : Int) := by omega
      rw [this]
      push_cast
      rfl
    refine sb_cons (s_set 2 sc__law_pair.nd (r := vI (prW n most)) ((x_add x_int (x_mod (x_var 0) (x_sub (x_var 1) x_int) (by omega))).cast (by rw [e1])) ?_)
    refine sb_cons (s_set 3 sc__law_pair.nd (r := vI (prS n most)) ((x_add x_int (x_mod (x_fdiv (x_var 0) x_int (by decide)) (x_sub (x_var 2) x_int) (by omega))).cast (by rw [e2])) ?_)
    exact sb_cons (s_ret (y_tup (ad_cons (x_var 2) (ad_cons (x_var 3) ad_nil))) h)
-- slots: 0 whole, 1 step, 2 k
theorem f__law_turn (H__law_turn : Has K mg "_law_turn" s__law_turn) (b_range : mg "range" = none) : Fn P w K mg base "_law_turn" 1 T__law_turn := by
  refine fn_mk2 H__law_turn sc__law_turn (fun _ _ _ _ _ _ us hl => match us, hl with | [_, _], _ => rfl) ?_ ?_
  · rintro rs O Φ ⟨ds, d, rfl, ⟨w, s, h1, h2, h3, rfl, rfl⟩, h⟩
    rfl
  · rintro f cdv A outer s0 H E rs O Φ hr ⟨ds, d, rfl, ⟨w, s, h1, h2, h3, rfl, rfl⟩, h⟩
    have hu := hr.units
    have ht := tn_pos (s := s) h1
    have htl := tn_le w s
    refine sb_cons (s_ret (x_ixL (d := .int (tn w s)) (x_lc (xs := List.range w) [("k", 2)] [2] (fun i => [some (vI w), some (vI s), some (vI (1 + (i : Int)))]) (fun i => (1 + i) * s % w == 0) (fun i => .int (1 + (i : Int))) sc__law_turn.nd
      (IT.as (it_range2 (by rfl) b_range x_int (x_add (x_var 0) x_int) (by omega)) ?_) (blkOk_by (N := n__law_turn) (sc := defScope s__law_turn) (by decide +kernel)) ?_
      (fun i hi _ _ _ _ _ => tg_name 2 sc__law_turn.nd)
      (fun i hi O' hO _ _ _ _ _ => ET.cast (tc (c_eq (x_mod (x_mul (x_var 2) (x_var 1) (.inr (by omega))) (x_var 0) (by omega)) x_int)) (beq_nat ((1 + i) * s % w) 0 (by push_cast; rfl)))
      (fun i hi _ O' hO _ _ _ _ _ => x_var 2)) x_int ?_) ?_)
    · have e : ((w : Int) + 1 - 1).toNat = w := by omega
      rw [e]
    · simp; omega

    · refine atI_nat (j := 0) ?_
      rw [List.getElem?_map, turn_head h1]
      simp
      omega
    · exact h
-- slots: 0 number, 1 most, 2 whole, 3 step
theorem f__law_row (H__law_row : Has K mg "_law_row" s__law_row) (F__law_pair : Fn P w K mg base "_law_pair" 1 T__law_pair) (F__law_turn : Fn P w K mg base "_law_turn" 1 T__law_turn) : Fn P w K mg base "_law_row" 2 T__law_row := by
  refine fn_mk2 H__law_row sc__law_row (fun _ _ _ _ _ _ us hl => match us, hl with | [_, _], _ => rfl) ?_ ?_
  · rintro rs O Φ ⟨ds, d, rfl, ⟨n, most, h1, h2, rfl, rfl⟩, h⟩
    rfl
  · rintro f cdv A outer s0 H E rs O Φ hr ⟨ds, d, rfl, ⟨n, most, h1, h2, rfl, rfl⟩, h⟩
    have hw := prW_b (n := n) h1
    have hs := prS_b (n := n) h1
    have ht := tn_pos (w := prW n most) (s := prS n most) (by omega)
    have htl := tn_le (prW n most) (prS n most)
    refine sb_cons (s_asg (y_call F__law_pair (hr.mono (by decide)) (ad_cons (x_var 0) (ad_cons (x_var 1) ad_nil)) ⟨n, most, h1, h2, rfl, rfl⟩) (tg_tup rfl (tgs_cons (tg_name 2 sc__law_row.nd) (tgs_cons (tg_name 3 sc__law_row.nd) tgs_nil))) ?_)
    have e : (1 : Int) + (n : Int) / 16384 % (tn (prW n most) (prS n most) : Int) = (prM n most : Int) := by
      unfold prM
      push_cast
      rfl
    exact sb_cons (s_ret (y_tup (ad_cons (x_var 2) (ad_cons (x_var 3) (ad_cons ((x_add x_int (x_mod (x_fdiv (x_var 0) x_int (by decide)) (y_call F__law_turn (hr.mono (by decide)) (ad_cons (x_var 2) (ad_cons (x_var 3) ad_nil)) ⟨prW n most, prS n most, by omega, by omega, by omega, rfl, rfl⟩) (by omega))).cast (by rw [e])) ad_nil)))) h)
-- slots: 0 row, 1 k
theorem f_place (H_place : Has K mg "place" s_place) : Fn P w K mg base "place" 1 T_place := by
  refine fn_mk2 H_place sc_place (fun _ _ _ _ _ _ us hl => match us, hl with | [_, _], _ => rfl) ?_ ?_
  · rintro rs O Φ ⟨ds, d, rfl, ⟨w, s, m, k, h1, h2, h3, rfl, rfl⟩, h⟩
    rfl
  · rintro f cdv A outer s0 H E rs O Φ hr ⟨ds, d, rfl, ⟨w, s, m, k, h1, h2, h3, rfl, rfl⟩, h⟩
    refine sb_cons (s_ret (x_mod (x_mul (x_var 1) (x_ixT (x_var 0) x_int rfl) (.inr (by omega))) (x_ixT (x_var 0) x_int rfl) (by omega)) ?_)
    exact_mod_cast h
-- slots: 0 row, 1 here, 2 k
theorem f_order (H_order : Has K mg "order" s_order) (F_place : Fn P w K mg base "place" 1 T_place) (b_range : mg "range" = none) (b_sorted : mg "sorted" = none) (b_tuple : mg "tuple" = none) : Fn P w K mg base "order" 2 T_order := by
  refine fn_mk2 H_order sc_order (fun _ _ _ _ _ _ us hl => match us, hl with | [_], _ => rfl) ?_ ?_
  · rintro rs O Φ ⟨ds, d, rfl, ⟨w, s, m, h1, rfl, rfl⟩, h⟩
    rfl
  · rintro f cdv A outer s0 H E rs O Φ hr ⟨ds, d, rfl, ⟨w, s, m, h1, rfl, rfl⟩, h⟩
    have hmw := h1.mw
    have hw1 := h1.w1
    refine sb_cons (s_ret (x_tuple (ds := (ordL w s m).map nD) b_tuple (EX.cast (x_lc0 (xs := ordP w s m) [("here", 1), ("k", 2)] [1, 2] (fun p => [some (.d (rowD w s m)), some (vI p.1), some (vI p.2)]) (fun p => nD p.2) sc_order.nd
      (IT.as (k := fun p => .d (npD p)) (it_list (x_sortedP (ps := (List.range m).map fun k => ipD (k * s % w, k)) (ps' := (ordP w s m).map ipD) b_sorted
        (EX.cast (x_lc0 (xs := List.range m) [("k", 2)] [2] (fun k => [some (.d (rowD w s m)), none, some (vI (k : Nat))]) (fun k => pD (ipD (k * s % w, k))) sc_order.nd
          (it_rangeN b_range (x_ixT (x_var 0) x_int rfl) (by omega)) (blkOk_by (N := n_order) (sc := defScope s_order) (by decide +kernel)) ?a2
          (fun k hk _ _ _ _ _ => tg_name 2 sc_order.nd)
          (fun k hk O' hO _ _ _ _ _ => y_tup (ad_cons (y_call F_place (hr.mono (by decide)) (ad_cons (x_var 0) (ad_cons (x_var 2) ad_nil)) ⟨w, s, m, k, h1.w0, h1.w1, h1.s1, rfl, rfl⟩) (ad_cons (x_var 2) ad_nil)))) ?a3) ?a4 ?a5)) ?a6)
        (blkOk_by (N := n_order) (sc := defScope s_order) (by decide +kernel)) ?a7
        (fun p hp _ _ _ _ _ => tg_tup rfl (tgs_cons (tg_name 1 sc_order.nd) (tgs_cons (tg_name 2 sc_order.nd) tgs_nil)))
        (fun p hp O' hO _ _ _ _ _ => x_var 2)) ?a8)) ?a9)
    case a2 => simp; omega
    case a3 => rw [List.map_map]; rfl
    case a4 =>
      have hp := (ordP_perm h1.w0 h1.m1).map ipD
      rw [List.map_map] at hp
      exact hp
    case a5 =>
      rw [List.pairwise_map]
      refine (ordP_sorted w s m).imp fun {a b} hab => lexle_of (.inl ?_)
      show ((a.1 : Int)) < (b.1 : Int)
      omega
    case a6 => rw [List.map_map, List.map_map]; rfl
    case a7 => rw [ordP_len h1.w0 h1.m1]; omega
    case a8 =>
      have e : (ordP w s m).map (fun p => nD p.2) = (ordL w s m).map nD := by unfold ordL; rw [List.map_map]; rfl
      rw [e]
    case a9 => exact h
-- slots: 0 row, 1 here, 2 k
theorem f_who (H_who : Has K mg "who" s_who) (F_place : Fn P w K mg base "place" 1 T_place) (b_range : mg "range" = none) : Fn P w K mg base "who" 2 T_who := by
  refine fn_mk2 H_who sc_who (fun _ _ _ _ _ _ us hl => match us, hl with | [_, _], _ => rfl) ?_ ?_
  · rintro rs O Φ ⟨ds, d, rfl, ⟨w, s, m, hh, h1, rfl, rfl⟩, h⟩
    rfl
  · rintro f cdv A outer s0 H E rs O Φ hr ⟨ds, d, rfl, ⟨w, s, m, hh, h1, rfl, rfl⟩, h⟩
    have hu := hr.units
    have hmw := h1.mw
    have hw1 := h1.w1
    refine sb_cons (s_for (xs := List.range m) (it_rangeN b_range (x_ixT (x_var 0) x_int rfl) (by omega)) (fun i E' O' => (∃ z, E' = [some (.d (rowD w s m)), some (vI hh), z]) ∧ O' = O ∧ ∀ k, k < i → k * s % w ≠ hh) ⟨⟨none, rfl⟩, rfl, fun k hk => absurd hk (Nat.not_lt_zero _)⟩ ?a2 ?a3)
    case a2 =>
      rintro i E' O' hi ⟨⟨z, rfl⟩, rfl, hn⟩
      have hi' : i < m := by simpa using hi
      have e : (List.range m)[i] = i := List.getElem_range _
      rw [e]
      refine ⟨_, _, tg_name 2 sc_who.nd, ?_⟩
      refine sb_cons (s_if (ET.cast (tc (c_eq (y_call F_place (hr.mono (by decide)) (ad_cons (x_var 0) (ad_cons (x_var 2) ad_nil)) ⟨w, s, m, i, h1.w0, h1.w1, h1.s1, rfl, rfl⟩) (x_var 1))) (beq_nat (i * s % w) hh rfl)) (fun hk => ?_) (fun hk => ?_))
      · have hk' : i * s % w = hh := by simpa using hk
        refine sb_cons (s_ret (x_var 2) ?_)
        rw [(idx_some h1.w0 h1.m1).mpr ⟨hi', hk'⟩] at h
        exact h
      · have hk' : i * s % w ≠ hh := by simpa using hk
        refine sb_nil (sb_nil ⟨⟨_, rfl⟩, rfl, fun k hk => ?_⟩)
        by_cases hki : k = i
        · subst hki
          exact hk'
        · exact hn k (by omega)
    case a3 =>
      rintro E' O' ⟨⟨z, rfl⟩, rfl, hn⟩
      refine sb_cons (s_ret x_non ?_)
      rw [idx_none.mpr (fun k hk => hn k (by simpa using hk))] at h
      exact h
-- slots: 0 row, 1 whole, 2 step, 3 many, 4 book, 5 k, 6 here
theorem f__law_order (H__law_order : Has K mg "_law_order" s__law_order) (b_range : mg "range" = none) : Fn P w K mg base "_law_order" 1 T__law_order := by
  refine fn_mk2 H__law_order sc__law_order (fun _ _ _ _ _ _ us hl => match us, hl with | [_], _ => rfl) ?_ ?_
  · rintro rs O Φ ⟨ds, d, rfl, ⟨w, s, m, h1, rfl, rfl⟩, h⟩
    rfl
  · rintro f cdv A outer s0 H E rs O Φ hr ⟨ds, d, rfl, ⟨w, s, m, h1, rfl, rfl⟩, h⟩
    have hu := hr.units
    have hmw := h1.mw
    have hw0 := h1.w0
    have hw1 := h1.w1
    have hs1 := h1.s1
    refine sb_cons (s_asg (x_var 0) (tg_tup rfl (tgs_cons (tg_name 1 sc__law_order.nd) (tgs_cons (tg_name 2 sc__law_order.nd) (tgs_cons (tg_name 3 sc__law_order.nd) tgs_nil)))) ?_)
    refine sb_cons (s_setG 4 sc__law_order.nd g_newD ?_)
    rintro r O1 ⟨q, rfl, rfl, hq⟩
    refine sb_cons (s_for (xs := List.range m) (it_rangeN b_range (x_var 3) (by omega)) (fun i E' O' => (∃ z, E' = [some (.d (rowD w s m)), some (vI w), some (vI s), some (vI m), some (.v (.ref q)), z, none]) ∧ ∃ kvs, O' = (q, .dic kvs) :: O ∧ kvs.length ≤ i ∧ ∀ hh : Nat, dval kvs hh = (idx w s i hh).map nD) ⟨⟨_, rfl⟩, [], rfl, Nat.le_refl _, fun hh => rfl⟩ ?a2 ?a3)
    case a2 =>
      rintro i E' O' hi ⟨⟨z, rfl⟩, kvs, rfl, hl, hn⟩
      have hi' : i < m := by simpa using hi
      have hm1 := h1.m1
      have e : (List.range m)[i] = i := List.getElem_range _
      rw [e]
      refine ⟨_, _, tg_name 5 sc__law_order.nd, ?_⟩
      refine sb_cons (s_dput (k := ((i * s % w : Nat) : Int)) (x_var 4) (EX.cast (x_mod (x_mul (x_var 5) (x_var 2) (.inr (by omega))) (x_var 1) (by omega)) (by push_cast; rfl)) (x_var 5) List.mem_cons_self (by omega) (sb_nil ⟨⟨_, rfl⟩, _, setO_head hq, ?_, fun hh => ?_⟩))
      · have := dput_len kvs ((i * s % w : Nat) : Int) (.int i)
        omega
      · rw [dval_put, idx_succ h1.w0 (by omega), hn]
        by_cases e : hh = i * s % w
        · subst e
          rw [if_pos rfl, if_pos rfl]
          rfl
        · rw [if_neg e, if_neg (by omega)]
    case a3 =>
      rintro E' O' ⟨⟨z, rfl⟩, kvs, rfl, hl, hn⟩
      rw [List.length_range] at hn
      refine sb_cons (s_retO (O' := O) (r := vL ((ordP w s m).map npD)) (EX.cast (x_lc (xs := List.range w) [("here", 6)] [6] (fun i => [some (.d (rowD w s m)), some (vI w), some (vI s), some (vI m), some (.v (.ref q)), z, some (vI (i : Nat))]) (fun i => (idx w s m i).isSome) (fun i => npD (i, (idx w s m i).getD 0)) sc__law_order.nd
        (it_rangeN b_range (x_var 1) (by omega)) (blkOk_by (N := n__law_order) (sc := defScope s__law_order) (by decide +kernel)) ?b2
        (fun i hi _ _ _ _ _ => tg_name 6 sc__law_order.nd)
        (fun i hi O' hO _ _ _ _ _ => ET.cast (tc (c_din (x_var 6) (x_var 4) (hO _ List.mem_cons_self))) ?b3)
        (fun i hi hp O' hO _ _ _ _ _ => y_tup (ad_cons (x_var 6) (ad_cons (x_dget (x_var 4) (x_var 6) (hO _ List.mem_cons_self) ?b4) ad_nil)))) ?b5) ?b6 ?b7)
      case b2 => simp; omega
      case b3 =>
        rw [hn]
        cases idx w s m i <;> rfl
      case b4 =>
        rw [hn]
        obtain ⟨k, e⟩ := Option.isSome_iff_exists.mp hp
        rw [e]
        rfl
      case b5 => rw [← ordP_filter, List.map_map]; rfl
      case b6 => exact List.sublist_cons_self _ _
      case b7 => exact h
-- slots: 0 script, 1 row, 2 whole, 3 step, 4 many, 5 here, 6 k, 7 some, 8 book
theorem f_law {f : Addr} {fd : FuncData} (D_law : FunD K "law" "law" (defArgs s_law) (defBody s_law) (defScope s_law) [] [] f fd) (F__law_mixed : Fn P w K mg base "_law_mixed" 2 T__law_mixed) (F__law_row : Fn P w K mg base "_law_row" 2 T__law_row) (F_place : Fn P w K mg base "place" 1 T_place) (F_order : Fn P w K mg base "order" 2 T_order) (F_who : Fn P w K mg base "who" 2 T_who) (F__law_order : Fn P w K mg base "_law_order" 1 T__law_order) (b_range : mg "range" = none) (b_tuple : mg "tuple" = none) (b_dict : mg "dict" = none) : FnOk P w K mg base CX0 3 f fd ["script"] (spOf K T_law) := by
  refine fn_at D_law sc_law ?_ ?_
  · rintro rs O Φ ⟨ns, h1, rfl, h2⟩
    rfl
  · rintro cdv A outer s0 H E rs O Φ hr ⟨ns, hlen, rfl, h⟩
    have hu := hr.units
    have R := pr_row (n := mixN ns 0) (most := 120) (by decide) (by decide)
    refine sb_cons (s_set 1 sc_law.nd (y_call F__law_row (hr.mono (by decide)) (ad_cons (g_call F__law_mixed (hr.mono (by decide)) (a_cons (x_var 0) (a_cons x_int a_nil)) ⟨ns, 0, rfl, rfl, rfl⟩) (ad_cons x_int ad_nil)) ⟨mixN ns 0, 120, by decide, by decide, rfl, rfl⟩) ?_)
    generalize prW (mixN ns 0) 120 = w, prS (mixN ns 0) 120 = s, prM (mixN ns 0) 120 = m at R ⊢
    have hmw := R.mw
    have hw0 := R.w0
    have hw1 := R.w1
    have hs1 := R.s1
    refine sb_cons (s_asg (x_var 1) (tg_tup rfl (tgs_cons (tg_name 2 sc_law.nd) (tgs_cons (tg_name 3 sc_law.nd) (tgs_cons (tg_name 4 sc_law.nd) tgs_nil)))) ?_)
    refine sb_cons (s_set 5 sc_law.nd x_int ?_)
    refine sb_cons (s_for (it_rangeN (n := m + 5) b_range (EX.cast (x_add (x_var 4) x_int) (by push_cast; rfl)) (by omega)) (fun i E' O' => (∃ z, E' = [some (.s ns), some (.d (rowD w s m)), some (vI w), some (vI s), some (vI m), some (vI ((i * s % w : Nat) : Int)), z, none, none]) ∧ O' = O) ⟨⟨none, by simp; rfl⟩, rfl⟩ ?a1 ?a2)
    case a1 =>
      rintro i E' O' hi ⟨⟨z, rfl⟩, rfl⟩
      have e : (List.range (m + 5))[i] = i := List.getElem_range _
      rw [e]
      have hlt := Nat.mod_lt (i * s) hw0
      refine ⟨_, _, tg_name 6 sc_law.nd, ?_⟩
      refine sb_cons (s_if (ET.cast (tc (c_ne (y_call F_place (hr.mono (by decide)) (ad_cons (x_var 1) (ad_cons (x_var 6) ad_nil)) ⟨w, s, m, i, hw0, hw1, hs1, rfl, rfl⟩) (x_var 5))) (b' := false) (by simp)) (fun hk => nomatch hk) (fun hk => ?_))
      refine sb_nil (sb_cons (s_set 5 sc_law.nd (x_add (x_var 5) (x_var 3)) ?_))
      refine sb_cons (s_if (tc (c_ge (x_var 5) (x_var 2))) (fun hk => ?_) (fun hk => ?_))
      · have hk' := of_decide_eq_true hk
        refine sb_cons (s_set 5 sc_law.nd (x_sub (x_var 5) (x_var 2)) (sb_nil (sb_nil ⟨⟨some (vI i), ?_⟩, rfl⟩)))
        have e2 : ((i * s % w : Nat) : Int) + s - w = (((i + 1) * s % w : Nat) : Int) := by
          rw [step_wrap R.sw, if_pos (by omega)]
          omega
        rw [e2]
        rfl
      · have hk' := of_decide_eq_false hk
        refine sb_nil (sb_nil ⟨⟨some (vI i), ?_⟩, rfl⟩)
        have e2 : ((i * s % w : Nat) : Int) + s = (((i + 1) * s % w : Nat) : Int) := by
          rw [step_wrap R.sw, if_neg (by omega)]
          omega
        rw [e2]
        rfl
    case a2 =>
      rintro E' O' ⟨⟨z, rfl⟩, rfl⟩
      refine sb_cons (s_set 6 sc_law.nd (g_call F__law_mixed (hr.mono (by decide)) (a_cons (x_var 0) (a_cons x_int a_nil)) ⟨ns, 1, rfl, rfl, rfl⟩) ?_)
      generalize mixN ns 1 = k
      refine sb_cons (s_if (ET.cast (tc (c_ne (y_call F_place (hr.mono (by decide)) (ad_cons (x_var 1) (ad_cons (x_var 6) ad_nil)) ⟨w, s, m, k, hw0, hw1, hs1, rfl, rfl⟩) (x_sub (x_mul (x_var 6) (x_var 3) (.inr (by omega))) (x_mul (x_fdiv (x_mul (x_var 6) (x_var 3) (.inr (by omega))) (x_var 2) (by omega)) (x_var 2) (.inr (by omega)))))) (b' := false) ?b1) (fun hk => nomatch hk) (fun hk => ?_))
      case b1 =>
        have e : ((k * s % w : Nat) : Int) = (k : Int) * s - (k : Int) * s / w * w := by
          rw [Int.natCast_emod, Int.emod_def, Int.mul_comm ((w : Int)), Int.natCast_mul]
        rw [e]
        simp
      refine sb_nil (sb_cons (s_set 7 sc_law.nd (y_call F__law_order (hr.mono (by decide)) (ad_cons (x_var 1) ad_nil) ⟨w, s, m, R, rfl, rfl⟩) ?_))
      refine sb_cons (s_if (tc (c_neF (y_call F_order (hr.mono (by decide)) (ad_cons (x_var 1) ad_nil) ⟨w, s, m, R, rfl, rfl⟩) (x_tuple (ds := (ordL w s m).map nD) b_tuple (EX.cast (x_lc0 (xs := ordP w s m) [("here", 5), ("k", 6)] [5, 6] (fun p => [some (.s ns), some (.d (rowD w s m)), some (vI w), some (vI s), some (vI m), some (vI p.1), some (vI p.2), some (vL ((ordP w s m).map npD)), none]) (fun p => nD p.2) sc_law.nd
        (IT.as (k := fun p => .d (npD p)) (it_list (x_var 7)) ?c1) (blkOk_by (N := n_law) (sc := defScope s_law) (by decide +kernel)) ?c2
        (fun p hp _ _ _ _ _ => tg_tup rfl (tgs_cons (tg_name 5 sc_law.nd) (tgs_cons (tg_name 6 sc_law.nd) tgs_nil)))
        (fun p hp O' hO _ _ _ _ _ => x_var 6)) ?c3)) ?c4)) (fun hk => nomatch hk) (fun hk => ?_))
      case c1 => rw [List.map_map]; rfl
      case c2 => rw [ordP_len hw0 R.m1]; omega
      case c3 =>
        have e : (ordP w s m).map (fun p => nD p.2) = (ordL w s m).map nD := by unfold ordL; rw [List.map_map]; rfl
        rw [e]
      case c4 => exact sh_nats _
      refine sb_nil (sb_cons (s_setG 8 sc_law.nd (g_dict (kvs := (ordP w s m).map fun p => ((p.1 : Int), nD p.2)) b_dict (EX.cast (x_var 7) ?d1)) ?_))
      case d1 => rw [List.map_map]; rfl
      rintro r O1 ⟨q, rfl, rfl, hq⟩
      have hv : ∀ hh : Nat, dval (dmerge [] ((ordP w s m).map fun p => ((p.1 : Int), nD p.2))) hh = (idx w s m hh).map nD := fun hh => by
        rw [dmerge_val _ _ _ ?n1 (fun _ _ => rfl), dval_nil, Option.or_none]
        case n1 =>
          rw [List.map_map]
          refine List.Pairwise.map _ (fun a b hab e => ?_) (ordP_sorted w s m)
          have e' : (a.1 : Int) = (b.1 : Int) := e
          omega
        exact dval_ordP hw0 R.m1 hh
      refine sb_cons (s_retO (r := vB true) (O' := O') (xc (c_eqT (d := .list []) (EX.cast (x_lc (xs := List.range w) [("here", 5)] [5] (fun i => [some (.s ns), some (.d (rowD w s m)), some (vI w), some (vI s), some (vI m), some (vI (i : Nat)), some (vI k), some (vL ((ordP w s m).map npD)), some (.v (.ref q))]) (fun i => false) (fun i => nD i) sc_law.nd
        (it_rangeN b_range (x_var 2) (by omega)) (blkOk_by (N := n_law) (sc := defScope s_law) (by decide +kernel)) ?f1
        (fun i hi _ _ _ _ _ => tg_name 5 sc_law.nd)
        (fun i hi O' hO _ _ _ _ _ => tc (c_neF (d := oD (idx w s m i)) (y_call F_who (hr.mono (by decide)) (ad_cons (x_var 1) (ad_cons (x_var 5) ad_nil)) ⟨w, s, m, i, R, rfl, rfl⟩) (EX.cast (x_dget2 (x_var 8) (x_var 5) x_non (hO _ List.mem_cons_self)) ?f2) ?f3))
        (fun i hi hp O' hO _ _ _ _ _ => nomatch hp)) ?f4) (y_lst ad_nil) ?f5)) (List.sublist_cons_self _ _) h)
      case f1 => simp; omega
      case f2 =>
        rw [hv]
        cases idx w s m i <;> rfl
      case f3 =>
        cases idx w s m i
        · exact sh_non _
        · exact sh_int _ _
      case f4 => simp
      case f5 => exact sh_lst (n := 7) fun x hx => nomatch hx
end
def d__law_cell_at : He.DefD := ⟨("_law_cell_at", none), "_law_cell_at", "_law_cell_at", defArgs s__law_cell_at, defBody s__law_cell_at, defScope s__law_cell_at, [], []⟩
def d__law_mixed : He.DefD := ⟨("_law_mixed", none), "_law_mixed", "_law_mixed", defArgs s__law_mixed, defBody s__law_mixed, defScope s__law_mixed, [], []⟩
def d__law_pair : He.DefD := ⟨("_law_pair", none), "_law_pair", "_law_pair", defArgs s__law_pair, defBody s__law_pair, defScope s__law_pair, [], []⟩
def d__law_turn : He.DefD := ⟨("_law_turn", none), "_law_turn", "_law_turn", defArgs s__law_turn, defBody s__law_turn, defScope s__law_turn, [], []⟩
def d__law_row : He.DefD := ⟨("_law_row", none), "_law_row", "_law_row", defArgs s__law_row, defBody s__law_row, defScope s__law_row, [], []⟩
def d_place : He.DefD := ⟨("place", none), "place", "place", defArgs s_place, defBody s_place, defScope s_place, [], []⟩
def d_order : He.DefD := ⟨("order", none), "order", "order", defArgs s_order, defBody s_order, defScope s_order, [], []⟩
def d_who : He.DefD := ⟨("who", none), "who", "who", defArgs s_who, defBody s_who, defScope s_who, [], []⟩
def d__law_order : He.DefD := ⟨("_law_order", none), "_law_order", "_law_order", defArgs s__law_order, defBody s__law_order, defScope s__law_order, [], []⟩
def d_law : He.DefD := ⟨("law", none), "law", "law", defArgs s_law, defBody s_law, defScope s_law, [], []⟩
def fn : List He.DefD := [d__law_cell_at, d__law_mixed, d__law_pair, d__law_turn, d__law_row, d_place, d_order, d_who, d__law_order, d_law]
def fa : List He.Fa := [.glo "_law_cell_at", .glo "_law_mixed", .glo "_law_pair", .glo "_law_turn", .glo "_law_row", .glo "place", .glo "order", .glo "who", .glo "_law_order", .glo "law", .free "len", .free "range", .free "sorted", .free "tuple", .free "dict"]
abbrev R : PySem.W.OpenRow := PySem.W.OpenLaw.row PySem.Challenge.rw_ringgaps_k10_points
abbrev hk : PySem.W.Hook := He.hookD 4 fa fn
def ob (s : PySem.W.SharedT) : He.AlD := He.obsDG 4 fa fn (HandSHeadRun.getT s)
theorem ob_eq (s : PySem.W.SharedT) : ob s = hk.obs s.abs := He.obsDG_eq (HandSHeadRun.getT_eq s)
theorem run (w : World) : HandSHeadRun.RunEq R (PySem.W.view R.prog [13]) hk ob 4000 ["place", "order", "who", "_law_cell_at", "_law_mixed", "_law_drawn", "_law_turn", "_law_pair", "_law_row", "_law_order", "_law_gaps"] w := by
  intro os
  kernel_rfl
theorem facts {P : Program} {w : World} {K : PySem.W.Frag} {h : Heap} {mg : Str → Option Value} {f : Addr} (X : K.In h) (G : h.Ns mainGlobals mg) (hfa : mg ("law" : Str) = some (.ref f)) (c : He.SaysD fa fn K) :
    ∃ fd : FuncData, (∀ (s : Shared) (v : Value), BindsTo s fd ⟨[v], []⟩ [("script", v)]) ∧ ∀ base : Heap, K.In base → base.Ns mainGlobals mg → FnOk P w K mg base CX0 3 f fd ["script"] (spOf K T_law) := by
  obtain ⟨fd__law_cell_at, D__law_cell_at⟩ := c.def_ 0 (d := d__law_cell_at) rfl
  have G__law_cell_at := He.glo_ok X G (c.fact 0 (f := .glo "_law_cell_at") rfl)
  obtain ⟨fd__law_mixed, D__law_mixed⟩ := c.def_ 1 (d := d__law_mixed) rfl
  have G__law_mixed := He.glo_ok X G (c.fact 1 (f := .glo "_law_mixed") rfl)
  obtain ⟨fd__law_pair, D__law_pair⟩ := c.def_ 2 (d := d__law_pair) rfl
  have G__law_pair := He.glo_ok X G (c.fact 2 (f := .glo "_law_pair") rfl)
  obtain ⟨fd__law_turn, D__law_turn⟩ := c.def_ 3 (d := d__law_turn) rfl
  have G__law_turn := He.glo_ok X G (c.fact 3 (f := .glo "_law_turn") rfl)
  obtain ⟨fd__law_row, D__law_row⟩ := c.def_ 4 (d := d__law_row) rfl
  have G__law_row := He.glo_ok X G (c.fact 4 (f := .glo "_law_row") rfl)
  obtain ⟨fd_place, D_place⟩ := c.def_ 5 (d := d_place) rfl
  have G_place := He.glo_ok X G (c.fact 5 (f := .glo "place") rfl)
  obtain ⟨fd_order, D_order⟩ := c.def_ 6 (d := d_order) rfl
  have G_order := He.glo_ok X G (c.fact 6 (f := .glo "order") rfl)
  obtain ⟨fd_who, D_who⟩ := c.def_ 7 (d := d_who) rfl
  have G_who := He.glo_ok X G (c.fact 7 (f := .glo "who") rfl)
  obtain ⟨fd__law_order, D__law_order⟩ := c.def_ 8 (d := d__law_order) rfl
  have G__law_order := He.glo_ok X G (c.fact 8 (f := .glo "_law_order") rfl)
  obtain ⟨fd_law, D_law⟩ := c.def_ 9 (d := d_law) rfl
  have G_law := He.glo_ok X G (c.fact 9 (f := .glo "law") rfl)
  have b_len := He.free_ok X G (c.fact 10 (f := .free "len") rfl)
  have b_range := He.free_ok X G (c.fact 11 (f := .free "range") rfl)
  have b_sorted := He.free_ok X G (c.fact 12 (f := .free "sorted") rfl)
  have b_tuple := He.free_ok X G (c.fact 13 (f := .free "tuple") rfl)
  have b_dict := He.free_ok X G (c.fact 14 (f := .free "dict") rfl)
  have e := hfa.symm.trans G_law
  cases e
  have b := FunD.bindsA (ps := ["script"]) D_law fun _ _ _ _ _ _ us hl => match us, hl with | [_], _ => rfl
  refine ⟨fd_law, fun s v => b s [v] rfl, fun base _ _ => ?_⟩
  have F__law_cell_at := f__law_cell_at (P := P) (w := w) (base := base) ⟨_, _, D__law_cell_at, G__law_cell_at⟩  b_len
  have F__law_mixed := f__law_mixed (P := P) (w := w) (base := base) ⟨_, _, D__law_mixed, G__law_mixed⟩ F__law_cell_at
  have F__law_pair := f__law_pair (P := P) (w := w) (base := base) ⟨_, _, D__law_pair, G__law_pair⟩
  have F__law_turn := f__law_turn (P := P) (w := w) (base := base) ⟨_, _, D__law_turn, G__law_turn⟩  b_range
  have F__law_row := f__law_row (P := P) (w := w) (base := base) ⟨_, _, D__law_row, G__law_row⟩ F__law_pair F__law_turn
  have F_place := f_place (P := P) (w := w) (base := base) ⟨_, _, D_place, G_place⟩
  have F_order := f_order (P := P) (w := w) (base := base) ⟨_, _, D_order, G_order⟩ F_place b_range b_sorted b_tuple
  have F_who := f_who (P := P) (w := w) (base := base) ⟨_, _, D_who, G_who⟩ F_place b_range
  have F__law_order := f__law_order (P := P) (w := w) (base := base) ⟨_, _, D__law_order, G__law_order⟩  b_range
  exact f_law (P := P) (w := w) (base := base) D_law F__law_mixed F__law_row F_place F_order F_who F__law_order b_range b_tuple b_dict
end Py.R
open PySem PySem.W PySem.Calls PyProof.Rows
set_option maxHeartbeats 0 in
theorem PySem.Challenge.cw_ringgaps_k10_points_holds : PySem.Challenge.rw_ringgaps_k10_points.Holds := by
  w_on; o_law
  refine HandSHeadRun.head_any (r := OpenLaw.row PySem.Challenge.rw_ringgaps_k10_points) (q := view (OpenLaw.row PySem.Challenge.rw_ringgaps_k10_points).prog [13]) (H := Py.R.hk) (ob := Py.R.ob) (M := 4000) (loose := ["place", "order", "who", "_law_cell_at", "_law_mixed", "_law_drawn", "_law_turn", "_law_pair", "_law_row", "_law_order", "_law_gaps"]) (d := HandSHeadRun.topDef (OpenLaw.row PySem.Challenge.rw_ringgaps_k10_points).prog 13) (kwd := []) Py.R.ob_eq
    (by kernel_rfl) (fun s => by kernel_rfl) Py.R.run (by kernel_rfl) (by kernel_rfl) (by kernel_rfl) (by rfl) (by first | assumption | decide +kernel) (by decide +kernel) ⟨rfl, rfl, rfl, rfl, rfl, by decide +kernel⟩ ?hw ?hc
  case hw => w_witness2
  case hc =>
    refine L2.walk_ofE (l := PySem.Challenge.rw_ringgaps_k10_points) (n := 63) (k := 3) (x := "script") (CX := L2.CX0) rfl (by decide) (by kernel_rfl) ⟨rfl, by decide, by decide⟩ ?F (fun _ _ _ _ z => z)
    intro w mg fa h Y G hmg0
    obtain ⟨K, KX, c⟩ := Y
    have hmg : mg ("law" : PySem.Str) = some (.ref fa) := by
      have e : (HandSHeadRun.topDef (OpenLaw.row PySem.Challenge.rw_ringgaps_k10_points).prog 13).name = ("law" : PySem.Str) := by kernel_rfl
      rw [← e]
      exact hmg0
    obtain ⟨fd, hb, hF⟩ := Py.R.facts (P := (PySem.Challenge.rw_ringgaps_k10_points).prog) (w := w) KX G hmg c
    exact ⟨K, fd, Py.spOf K Py.T_law, KX, hb, fun H a ns hl _ hS => Py.sp_law hl hS, hF⟩
