import PyProof.Rows.All
import Wide.All
import OpenK.AllK
import Wide.FinOn
import HandS.ForExc
import HandS.Comp
import HandS.Style
import HandS.IsInst
import HandS.Wide
import HandS.TupAny
import HandS.TupMul
import HandS.EndBits
import HandS.Dict
import HandS.Deep
import KE.KTupSum
import PySem.Challenge.RW_meetwall_k51_counted_meetings_of_anythin
set_option Elab.async false
set_option linter.all false
set_option maxRecDepth 100000
/-! The data layer: what a def computes, as a plain function over trees and a store of mutable cells. -/
namespace L2
namespace DL
open PySem PySem.Spec PyProof.Rows

/-- a value as a tree: tuples and lists that are never changed any more by their items, lists known to stay (fz), mutable things by their place in the store -/
inductive D where
  | non | bl (b : Bool) | int (i : Int) | str (x : Str) | tup (ds : List D) | lst (ds : List D) | fz (ds : List D) | ref (n : Nat) | ty (n : String)
/-- a mutable thing -/
inductive Cell where
  | lst (ds : List D) | dK (kvs : List (Key × D)) | dT (kvs : List (List Key × D)) | ins (c : Str) (fs : List (Str × D))
abbrev Sto := List Cell
abbrev Ev := List (Option D)
/-- what a piece of code comes to -/
inductive Out (A : Type) where
  | ok (a : A) (S : Sto) | exc (c : Str) (S : Sto) | bad
def Out.bind {A B : Type} (m : Out A) (k : A → Sto → Out B) : Out B := match m with
  | .ok a S => k a S
  | .exc c S => .exc c S
  | .bad => .bad
theorem Out.bind_ok {A B : Type} (a : A) (S : Sto) (k : A → Sto → Out B) : (Out.ok a S).bind k = k a S := rfl
theorem Out.bind_exc {A B : Type} (c : Str) (S : Sto) (k : A → Sto → Out B) : (Out.exc c S).bind k = Out.exc c S := rfl
theorem Out.bind_bad {A B : Type} (k : A → Sto → Out B) : (Out.bad : Out A).bind k = Out.bad := rfl
def lift {A : Type} (o : Option A) (S : Sto) : Out A := match o with
  | some a => .ok a S
  | none => .bad

/-! ### how a value of the machine is a tree -/
/-- a list of the written part -/
def KL (K : PySem.W.Frag) (a : Addr) (xs : List V) : Prop := ∃ (o : Obj) (its : Array Value) (n : Nat), K.lookup a = some o ∧ o.cls = .type "list" ∧ o.dict = none ∧ o.data = .seq its n ∧ its.size ≤ sizeLine ∧ Vals xs its.toList
/-- a list that nobody changes -/
def FzL (K : PySem.W.Frag) (H : Hp) (a : Addr) (xs : List V) : Prop := (∃ o, H a = some (.frz o (.lst xs))) ∨ KL K a xs
theorem FzL.sq {K : PySem.W.Frag} {H : Hp} {a : Addr} {xs : List V} (h : FzL K H a xs) : SqL K H a xs := h.elim (fun ⟨o, z⟩ => .inl (.inr ⟨o, z⟩)) .inr
mutual
inductive Den (K : PySem.W.Frag) (H : Hp) (r t : List Addr) : V → D → Prop
  | non : Den K H r t .non .non
  | bl (b : Bool) : Den K H r t (.bl b) (.bl b)
  | int (i : Int) : Den K H r t (.int i) (.int i)
  | str (x : Str) : Den K H r t (.str x) (.str x)
  | tup {a : Addr} {xs : List V} {ds : List D} (h : SqT K H a xs) (z : DenL K H r t xs ds) : Den K H r t (.ref a) (.tup ds)
  | lst {a : Addr} {xs : List V} {ds : List D} (h : H a = some (.lst xs)) (n : a ∉ r) (m : a ∉ t) (z : DenL K H r t xs ds) : Den K H r t (.ref a) (.lst ds)
  | fz {a : Addr} {xs : List V} {ds : List D} (h : FzL K H a xs) (z : DenL K H r t xs ds) : Den K H r t (.ref a) (.fz ds)
  | ref {a : Addr} {n : Nat} (h : r[n]? = some a) : Den K H r t (.ref a) (.ref n)
  | ty (n : String) : Den K H r t (.ty n) (.ty n)
inductive DenL (K : PySem.W.Frag) (H : Hp) (r t : List Addr) : List V → List D → Prop
  | nil : DenL K H r t [] []
  | cons {v : V} {vs : List V} {d : D} {ds : List D} : Den K H r t v d → DenL K H r t vs ds → DenL K H r t (v :: vs) (d :: ds)
end
/-- pairs of a key and a value -/
def DenP (K : PySem.W.Frag) (H : Hp) (r t : List Addr) {k : Type} (xs : List (k × V)) (ds : List (k × D)) : Prop := xs.map (·.1) = ds.map (·.1) ∧ DenL K H r t (xs.map (·.2)) (ds.map (·.2))

/-- the heap grows: new cells behind the old ones, what is no cell stays -/
structure Ext (r : List Addr) (H : Hp) (r' : List Addr) (H' : Hp) : Prop where
  pre : ∃ nw, r' = r ++ nw ∧ ∀ p ∈ nw, H p = none
  keep : ∀ b o, H b = some o → b ∉ r → H' b = some o
  tups : ∀ b xs, H b = some (.tup xs) → H' b = some (.tup xs)
  frzs : ∀ b o u, H b = some (.frz o u) → H' b = some (.frz o u)
  owns : ∀ b x, H b = some (.own x) → H' b = some (.own x)
  there : ∀ b, H b ≠ none → H' b ≠ none
section
variable {K : PySem.W.Frag} {H H1 H2 : Hp} {r r1 r2 t : List Addr}
theorem Ext.refl (r : List Addr) (H : Hp) : Ext r H r H := ⟨⟨[], by simp⟩, fun _ _ h _ => h, fun _ _ h => h, fun _ _ _ h => h, fun _ _ h => h, fun _ h => h⟩
theorem Ext.notin (a : Ext r H r1 H1) {b : Addr} (h : H b ≠ none) (hb : b ∉ r) : b ∉ r1 := fun hm => by
  obtain ⟨n1, e1, f1⟩ := a.pre
  rw [e1] at hm
  rcases List.mem_append.mp hm with z | z
  · exact hb z
  · exact h (f1 b z)
theorem Ext.trans (a : Ext r H r1 H1) (b : Ext r1 H1 r2 H2) : Ext r H r2 H2 := by
  obtain ⟨n1, e1, f1⟩ := a.pre
  obtain ⟨n2, e2, f2⟩ := b.pre
  refine ⟨⟨n1 ++ n2, by rw [e2, e1, List.append_assoc], fun p hp => ?_⟩, fun c o h hc => b.keep c o (a.keep c o h hc) (a.notin (by rw [h]; exact fun z => nomatch z) hc), fun c xs h => b.tups c xs (a.tups c xs h), fun c o u h => b.frzs c o u (a.frzs c o u h), fun c o h => b.owns c o (a.owns c o h), fun c h => b.there c (a.there c h)⟩
  rcases List.mem_append.mp hp with z | z
  · exact f1 p z
  · have q := f2 p z
    cases e : H p with
    | none => rfl
    | some o => exact absurd q (a.there p (by rw [e]; exact fun z => nomatch z))
theorem Ext.get (a : Ext r H r1 H1) {n : Nat} {b : Addr} (h : r[n]? = some b) : r1[n]? = some b := by
  obtain ⟨n1, e1, _⟩ := a.pre
  rw [e1, List.getElem?_append_left (List.getElem?_eq_some_iff.mp h).1]
  exact h
theorem Ext.sqT (a : Ext r H r1 H1) {b : Addr} {xs : List V} (h : SqT K H b xs) : SqT K H1 b xs := by
  rcases h with (h | ⟨o, h⟩) | h
  · exact .inl (.inl (a.tups _ _ h))
  · exact .inl (.inr ⟨o, a.frzs _ _ _ h⟩)
  · exact .inr h
mutual
theorem Den.ext (a : Ext r H r1 H1) : ∀ (d : D) (v : V), Den K H r t v d → Den K H1 r1 t v d
  | .non, _, h => by cases h; exact .non
  | .bl b, _, h => by cases h; exact .bl b
  | .int i, _, h => by cases h; exact .int i
  | .str x, _, h => by cases h; exact .str x
  | .ty n, _, h => by cases h; exact .ty n
  | .tup ds, _, h => by
    cases h with
    | tup h z => exact .tup (a.sqT h) (DenL.ext a ds _ z)
  | .lst ds, _, h => by
    cases h with
    | lst h n m z => exact .lst (a.keep _ _ h n) (a.notin (by rw [h]; exact fun z => nomatch z) n) m (DenL.ext a ds _ z)
  | .fz ds, _, h => by
    cases h with
    | fz h z => exact .fz (h.imp (fun ⟨o, q⟩ => ⟨o, a.frzs _ _ _ q⟩) id) (DenL.ext a ds _ z)
  | .ref n, _, h => by
    cases h with
    | ref h => exact .ref (a.get h)
theorem DenL.ext (a : Ext r H r1 H1) : ∀ (ds : List D) (vs : List V), DenL K H r t vs ds → DenL K H1 r1 t vs ds
  | [], _, h => by cases h; exact .nil
  | d :: ds, _, h => by
    cases h with
    | cons h1 h2 => exact .cons (Den.ext a d _ h1) (DenL.ext a ds _ h2)
end
theorem DenP.ext (a : Ext r H r1 H1) {k : Type} {xs : List (k × V)} {ds : List (k × D)} (h : DenP K H r t xs ds) : DenP K H1 r1 t xs ds := ⟨h.1, DenL.ext a _ _ h.2⟩
theorem DenL.length : ∀ {vs : List V} {ds : List D}, DenL K H r t vs ds → vs.length = ds.length
  | _, _, .nil => rfl
  | _, _, .cons _ h => by rw [List.length_cons, List.length_cons, DenL.length h]
theorem DenL.get : ∀ {vs : List V} {ds : List D} {i : Nat} {d : D}, DenL K H r t vs ds → ds[i]? = some d → ∃ v, vs[i]? = some v ∧ Den K H r t v d
  | _, _, _, _, .nil, e => by simp at e
  | _, _, 0, _, .cons h _, e => by
    have e' := Option.some.inj e
    subst e'
    exact ⟨_, rfl, h⟩
  | _, _, i + 1, _, .cons _ h, e => DenL.get (i := i) h e
theorem DenL.getV : ∀ {vs : List V} {ds : List D} {i : Nat} {v : V}, DenL K H r t vs ds → vs[i]? = some v → ∃ d, ds[i]? = some d ∧ Den K H r t v d
  | _, _, _, _, .nil, e => by simp at e
  | _, _, 0, _, .cons h _, e => by
    have e' := Option.some.inj e
    subst e'
    exact ⟨_, rfl, h⟩
  | _, _, i + 1, _, .cons _ h, e => DenL.getV (i := i) h e
theorem DenL.append : ∀ {vs ws : List V} {ds es : List D}, DenL K H r t vs ds → DenL K H r t ws es → DenL K H r t (vs ++ ws) (ds ++ es)
  | _, _, _, _, .nil, h => h
  | _, _, _, _, .cons a b, h => .cons a (DenL.append b h)
theorem DenL.take : ∀ {vs : List V} {ds : List D} (n : Nat), DenL K H r t vs ds → DenL K H r t (vs.take n) (ds.take n)
  | _, _, 0, _ => .nil
  | _, _, _ + 1, .nil => .nil
  | _, _, n + 1, .cons a b => .cons a (DenL.take n b)
theorem DenL.drop : ∀ {vs : List V} {ds : List D} (n : Nat), DenL K H r t vs ds → DenL K H r t (vs.drop n) (ds.drop n)
  | _, _, 0, h => h
  | _, _, _ + 1, .nil => .nil
  | _, _, n + 1, .cons _ b => DenL.drop n b
theorem DenL.set : ∀ {vs : List V} {ds : List D} (n : Nat) {v : V} {d : D}, DenL K H r t vs ds → Den K H r t v d → DenL K H r t (vs.set n v) (ds.set n d)
  | _, _, _, _, _, .nil, _ => .nil
  | _, _, 0, _, _, .cons _ b, h => .cons h b
  | _, _, n + 1, _, _, .cons a b, h => .cons a (DenL.set n b h)
theorem DenL.reverse : ∀ {vs : List V} {ds : List D}, DenL K H r t vs ds → DenL K H r t vs.reverse ds.reverse
  | _, _, .nil => .nil
  | _, _, .cons a b => by
    rw [List.reverse_cons, List.reverse_cons]
    exact (DenL.reverse b).append (.cons a .nil)
theorem DenL.rep {vs : List V} {ds : List D} (h : DenL K H r t vs ds) : ∀ k : Nat, DenL K H r t (List.replicate k vs).flatten (List.replicate k ds).flatten
  | 0 => .nil
  | k + 1 => by
    rw [List.replicate_succ, List.replicate_succ, List.flatten_cons, List.flatten_cons]
    exact h.append (DenL.rep h k)
/-- ints, bools read off -/
theorem DenL.ints : ∀ {vs : List V} {ns : List Int}, DenL K H r t vs (ns.map D.int) → vs = ns.map V.int
  | _, [], h => by cases h; rfl
  | _, n :: ns, h => by
    cases h with
    | cons a b => cases a; rw [List.map_cons, DenL.ints b]
theorem DenL.bls : ∀ {vs : List V} {ns : List Bool}, DenL K H r t vs (ns.map D.bl) → vs = ns.map V.bl
  | _, [], h => by cases h; rfl
  | _, n :: ns, h => by
    cases h with
    | cons a b => cases a; rw [List.map_cons, DenL.bls b]
/- fewer hidden addresses ask less -/
mutual
theorem Den.less {u : List Addr} (hs : ∀ a ∈ u, a ∈ t) : ∀ (d : D) (v : V), Den K H r t v d → Den K H r u v d
  | .non, _, h => by cases h; exact .non
  | .bl b, _, h => by cases h; exact .bl b
  | .int i, _, h => by cases h; exact .int i
  | .str x, _, h => by cases h; exact .str x
  | .ty n, _, h => by cases h; exact .ty n
  | .tup ds, _, h => by
    cases h with
    | tup h z => exact .tup h (DenL.less hs ds _ z)
  | .lst ds, _, h => by
    cases h with
    | lst h n m z => exact .lst h n (fun q => m (hs _ q)) (DenL.less hs ds _ z)
  | .fz ds, _, h => by
    cases h with
    | fz h z => exact .fz h (DenL.less hs ds _ z)
  | .ref n, _, h => by
    cases h with
    | ref h => exact .ref h
theorem DenL.less {u : List Addr} (hs : ∀ a ∈ u, a ∈ t) : ∀ (ds : List D) (vs : List V), DenL K H r t vs ds → DenL K H r u vs ds
  | [], _, h => by cases h; exact .nil
  | d :: ds, _, h => by
    cases h with
    | cons h1 h2 => exact .cons (Den.less hs d _ h1) (DenL.less hs ds _ h2)
end
/- one more hidden address, new: what was said stands -/
mutual
theorem Den.hide {p : Addr} {o : HO} (hp : H p = none) : ∀ (d : D) (v : V), Den K H r t v d → Den K (upd H p o) r (p :: t) v d
  | .non, _, h => by cases h; exact .non
  | .bl b, _, h => by cases h; exact .bl b
  | .int i, _, h => by cases h; exact .int i
  | .str x, _, h => by cases h; exact .str x
  | .ty n, _, h => by cases h; exact .ty n
  | .tup ds, _, h => by
    cases h with
    | tup h z =>
      refine .tup ?_ (DenL.hide hp ds _ z)
      rcases h with (h | ⟨o, h⟩) | h
      · exact .inl (.inl (by rw [upd_ne (ne_of_none h hp)]; exact h))
      · exact .inl (.inr ⟨o, by rw [upd_ne (ne_of_none h hp)]; exact h⟩)
      · exact .inr h
  | .lst ds, _, h => by
    cases h with
    | lst h n m z => exact .lst (by rw [upd_ne (ne_of_none h hp)]; exact h) n (fun q => (List.mem_cons.mp q).elim (ne_of_none h hp) m) (DenL.hide hp ds _ z)
  | .fz ds, _, h => by
    cases h with
    | fz h z => exact .fz (h.imp (fun ⟨o, q⟩ => ⟨o, by rw [upd_ne (ne_of_none q hp)]; exact q⟩) id) (DenL.hide hp ds _ z)
  | .ref n, _, h => by
    cases h with
    | ref h => exact .ref h
theorem DenL.hide {p : Addr} {o : HO} (hp : H p = none) : ∀ (ds : List D) (vs : List V), DenL K H r t vs ds → DenL K (upd H p o) r (p :: t) vs ds
  | [], _, h => by cases h; exact .nil
  | d :: ds, _, h => by
    cases h with
    | cons h1 h2 => exact .cons (Den.hide hp d _ h1) (DenL.hide hp ds _ h2)
end
/- a hidden address is written: what was said stands -/
mutual
theorem Den.over {p : Addr} {o : HO} (hp : p ∈ t) (hT : ∀ xs, H p ≠ some (.tup xs)) (hF : ∀ ob u, H p ≠ some (.frz ob u)) : ∀ (d : D) (v : V), Den K H r t v d → Den K (upd H p o) r t v d
  | .non, _, h => by cases h; exact .non
  | .bl b, _, h => by cases h; exact .bl b
  | .int i, _, h => by cases h; exact .int i
  | .str x, _, h => by cases h; exact .str x
  | .ty n, _, h => by cases h; exact .ty n
  | .tup ds, _, h => by
    cases h with
    | tup h z =>
      refine .tup ?_ (DenL.over hp hT hF ds _ z)
      rcases h with (h | ⟨o, h⟩) | h
      · exact .inl (.inl (by rw [upd_ne (fun e => by subst e; exact hT _ h)]; exact h))
      · exact .inl (.inr ⟨o, by rw [upd_ne (fun e => by subst e; exact hF _ _ h)]; exact h⟩)
      · exact .inr h
  | .lst ds, _, h => by
    cases h with
    | lst h n m z => exact .lst (by rw [upd_ne (fun e => by subst e; exact m hp)]; exact h) n m (DenL.over hp hT hF ds _ z)
  | .fz ds, _, h => by
    cases h with
    | fz h z => exact .fz (h.imp (fun ⟨o, q⟩ => ⟨o, by rw [upd_ne (fun e => by subst e; exact hF _ _ q)]; exact q⟩) id) (DenL.over hp hT hF ds _ z)
  | .ref n, _, h => by
    cases h with
    | ref h => exact .ref h
theorem DenL.over {p : Addr} {o : HO} (hp : p ∈ t) (hT : ∀ xs, H p ≠ some (.tup xs)) (hF : ∀ ob u, H p ≠ some (.frz ob u)) : ∀ (ds : List D) (vs : List V), DenL K H r t vs ds → DenL K (upd H p o) r t vs ds
  | [], _, h => by cases h; exact .nil
  | d :: ds, _, h => by
    cases h with
    | cons h1 h2 => exact .cons (Den.over hp hT hF d _ h1) (DenL.over hp hT hF ds _ h2)
end
end

/-! ### the store -/
section
variable (K : PySem.W.Frag) (mg : Str → Option Value) (H : Hp) (r t : List Addr)
def CellOk (a : Addr) : Cell → Prop
  | .lst ds => ∃ xs, H a = some (.lst xs) ∧ DenL K H r t xs ds
  | .dK kvs => ∃ ps, H a = some (.dK ps) ∧ DenP K H r t ps kvs
  | .dT kvs => ∃ ps, H a = some (.dT ps) ∧ DenP K H r t ps kvs
  | .ins c fs => ∃ C dx ps, H a = some (.ins C dx ps) ∧ H dx = some (.own a) ∧ mg c = some (.ref C) ∧ DenP K H r t ps fs
structure SOk (S : Sto) : Prop where
  len : r.length = S.length
  nd : r.Nodup
  ok : ∀ (n : Nat) (a : Addr) (c : Cell), r[n]? = some a → S[n]? = some c → CellOk K mg H r t a c
  hid : ∀ a ∈ t, H a ≠ none ∧ a ∉ r
structure Rel (S : Sto) (env : Ev) (σ : St) : Prop where
  so : SOk K mg H r t S
  len : env.length = σ.length
  en : ∀ (i : Nat) (d : D), env[i]? = some (some d) → ∃ v, σ[i]? = some (some v) ∧ Den K H r t v d
end
section
variable {K : PySem.W.Frag} {mg : Str → Option Value} {H H1 : Hp} {r r1 t : List Addr} {S S1 : Sto} {env : Ev} {σ : St}
theorem Rel.ext (R : Rel K mg H r t S env σ) (e : Ext r H r1 H1) (so : SOk K mg H1 r1 t S1) : Rel K mg H1 r1 t S1 env σ :=
  ⟨so, R.len, fun i d h => let ⟨v, h1, h2⟩ := R.en i d h; ⟨v, h1, Den.ext e d v h2⟩⟩
theorem Rel.set (R : Rel K mg H r t S env σ) (i : Nat) {v : V} {d : D} (h : Den K H r t v d) : Rel K mg H r t S (env.set i (some d)) (σ.set i (some v)) := by
  refine ⟨R.so, by rw [List.length_set, List.length_set, R.len], fun j e q => ?_⟩
  by_cases hj : i = j
  · subst hj
    by_cases hl : i < env.length
    · rw [List.getElem?_set_self hl] at q
      have q' := Option.some.inj (Option.some.inj q)
      subst q'
      exact ⟨v, by rw [List.getElem?_set_self (by rw [← R.len]; exact hl)], h⟩
    · rw [List.getElem?_eq_none (by rw [List.length_set]; omega)] at q
      cases q
  · rw [List.getElem?_set_ne hj] at q
    obtain ⟨w, h1, h2⟩ := R.en j e q
    exact ⟨w, by rw [List.getElem?_set_ne hj]; exact h1, h2⟩
theorem Rel.wipe (R : Rel K mg H r t S env σ) (i : Nat) : Rel K mg H r t S (env.set i none) (σ.set i none) := by
  refine ⟨R.so, by rw [List.length_set, List.length_set, R.len], fun j e q => ?_⟩
  by_cases hj : i = j
  · subst hj
    by_cases hl : i < env.length
    · rw [List.getElem?_set_self hl] at q
      cases q
    · rw [List.getElem?_eq_none (by rw [List.length_set]; omega)] at q
      cases q
  · rw [List.getElem?_set_ne hj] at q
    obtain ⟨w, h1, h2⟩ := R.en j e q
    exact ⟨w, by rw [List.getElem?_set_ne hj]; exact h1, h2⟩
/-- a new object that is no cell -/
theorem Ext.new {p : Addr} {o : HO} (hp : H p = none) : Ext r H r (upd H p o) := by
  have ne : ∀ b u, H b = some u → b ≠ p := fun b u h => ne_of_none h hp
  refine ⟨⟨[], by simp⟩, fun b u h _ => ?_, fun b u h => ?_, fun b u w h => ?_, fun b u h => ?_, fun b h => ?_⟩
  · rw [upd_ne (ne b _ h)]; exact h
  · rw [upd_ne (ne b _ h)]; exact h
  · rw [upd_ne (ne b _ h)]; exact h
  · rw [upd_ne (ne b _ h)]; exact h
  · by_cases e : b = p
    · subst e; rw [upd_same]; exact fun z => nomatch z
    · rw [upd_ne e]; exact h
theorem CellOk.at (so : SOk K mg H r t S) (e : Ext r H r1 H1) {a : Addr} {c : Cell} (h : CellOk K mg H r t a c) (k : H1 a = H a) : CellOk K mg H1 r1 t a c := by
  cases c with
  | lst ds => obtain ⟨xs, h1, h2⟩ := h; exact ⟨xs, k.trans h1, DenL.ext e _ _ h2⟩
  | dK ds => obtain ⟨xs, h1, h2⟩ := h; exact ⟨xs, k.trans h1, DenP.ext e h2⟩
  | dT ds => obtain ⟨xs, h1, h2⟩ := h; exact ⟨xs, k.trans h1, DenP.ext e h2⟩
  | ins c fs => obtain ⟨C, dx, ps, h1, h2, h3, h4⟩ := h; exact ⟨C, dx, ps, k.trans h1, e.owns _ _ h2, h3, DenP.ext e h4⟩
theorem CellOk.there {a : Addr} {c : Cell} (h : CellOk K mg H r t a c) : ∃ o, H a = some o ∧ Mut (some o) := by
  cases c with
  | lst ds => obtain ⟨xs, h1, h2⟩ := h; exact ⟨_, h1, trivial⟩
  | dK ds => obtain ⟨xs, h1, h2⟩ := h; exact ⟨_, h1, trivial⟩
  | dT ds => obtain ⟨xs, h1, h2⟩ := h; exact ⟨_, h1, trivial⟩
  | ins c fs => obtain ⟨C, dx, ps, h1, h2, h3, h4⟩ := h; exact ⟨_, h1, trivial⟩
theorem SOk.cell (so : SOk K mg H r t S) {n : Nat} {a : Addr} (h : r[n]? = some a) : ∃ c, S[n]? = some c ∧ CellOk K mg H r t a c := by
  have hn : n < S.length := by rw [← so.len]; exact (List.getElem?_eq_some_iff.mp h).1
  exact ⟨S[n], List.getElem?_eq_getElem hn, so.ok n a _ h (List.getElem?_eq_getElem hn)⟩
theorem SOk.addr (so : SOk K mg H r t S) {n : Nat} {c : Cell} (h : S[n]? = some c) : ∃ a, r[n]? = some a ∧ CellOk K mg H r t a c := by
  have hn : n < r.length := by rw [so.len]; exact (List.getElem?_eq_some_iff.mp h).1
  exact ⟨r[n], List.getElem?_eq_getElem hn, so.ok n _ _ (List.getElem?_eq_getElem hn) h⟩
theorem SOk.memThere (so : SOk K mg H r t S) {a : Addr} (h : a ∈ r) : ∃ o, H a = some o ∧ Mut (some o) := by
  obtain ⟨n, hn, e⟩ := List.getElem_of_mem h
  obtain ⟨c, _, ok⟩ := so.cell (n := n) (a := a) (by rw [List.getElem?_eq_getElem hn, e])
  exact ok.there
/-- .. the store stands -/
theorem SOk.new {p : Addr} {o : HO} (so : SOk K mg H r t S) (hp : H p = none) : SOk K mg (upd H p o) r t S := by
  refine ⟨so.len, so.nd, fun n a c h1 h2 => ?_, fun a ha => ⟨(Ext.new (r := r) hp).there a (so.hid a ha).1, (so.hid a ha).2⟩⟩
  have ok := so.ok n a c h1 h2
  obtain ⟨u, e, _⟩ := ok.there
  exact ok.at so (Ext.new hp) (upd_ne (ne_of_none e hp))
/-- a new cell -/
theorem Ext.grow {p : Addr} {o : HO} (hp : H p = none) : Ext r H (r ++ [p]) (upd H p o) := by
  have e := Ext.new (r := r) (o := o) hp
  exact ⟨⟨[p], rfl, fun q hq => by have z : q = p := by simpa using hq
                                   subst z; exact hp⟩, e.keep, e.tups, e.frzs, e.owns, e.there⟩
theorem SOk.grow {p : Addr} {o : HO} {c : Cell} (so : SOk K mg H r t S) (hp : H p = none) (hc : CellOk K mg (upd H p o) (r ++ [p]) t p c) : SOk K mg (upd H p o) (r ++ [p]) t (S ++ [c]) := by
  refine ⟨by rw [List.length_append, List.length_append, so.len]; rfl, ?_, fun n a d h1 h2 => ?_, fun a ha => ⟨(Ext.new (r := r) hp).there a (so.hid a ha).1, fun q => ?_⟩⟩
  · rw [List.nodup_append]
    refine ⟨so.nd, by simp, fun a ha b hb => ?_⟩
    have z : b = p := by simpa using hb
    obtain ⟨u, e, _⟩ := so.memThere ha
    rw [z]
    exact ne_of_none e hp
  · by_cases hn : n < r.length
    · rw [List.getElem?_append_left hn] at h1
      rw [List.getElem?_append_left (by rw [← so.len]; exact hn)] at h2
      have ok := so.ok n a d h1 h2
      obtain ⟨u, e, _⟩ := ok.there
      exact ok.at so (Ext.grow hp) (upd_ne (ne_of_none e hp))
    · have e1 := (List.getElem?_eq_some_iff.mp h1).1
      rw [List.length_append] at e1
      have e2 : n = r.length := by
        have : ([p] : List Addr).length = 1 := rfl
        omega
      subst e2
      rw [List.getElem?_append_right (Nat.le_refl _), Nat.sub_self] at h1
      rw [so.len, List.getElem?_append_right (Nat.le_refl _), Nat.sub_self] at h2
      have z1 : p = a := Option.some.inj h1
      have z2 : c = d := Option.some.inj h2
      subst z1 z2
      exact hc
  · rcases List.mem_append.mp q with z | z
    · exact (so.hid a ha).2 z
    · have y : a = p := by simpa using z
      subst y
      exact (so.hid a ha).1 hp
/-- a cell is written -/
theorem Ext.write {p : Addr} {o u : HO} (hu : H p = some u) (mu : Mut (some u)) (hm : p ∈ r) : Ext r H r (upd H p o) := by
  refine ⟨⟨[], by simp⟩, fun b w h hb => ?_, fun b w h => ?_, fun b w w2 h => ?_, fun b w h => ?_, fun b h => ?_⟩
  · rw [upd_ne (fun e => by subst e; exact hb hm)]; exact h
  · rw [upd_ne (fun e => by subst e; rw [hu] at h; cases h; exact mu)]; exact h
  · rw [upd_ne (fun e => by subst e; rw [hu] at h; cases h; exact mu)]; exact h
  · rw [upd_ne (fun e => by subst e; rw [hu] at h; cases h; exact mu)]; exact h
  · by_cases e : b = p
    · subst e; rw [upd_same]; exact fun z => nomatch z
    · rw [upd_ne e]; exact h
theorem nodup_get {l : List Addr} (h : l.Nodup) {i j : Nat} {a : Addr} (h1 : l[i]? = some a) (h2 : l[j]? = some a) : i = j := by
  obtain ⟨b1, e1⟩ := List.getElem?_eq_some_iff.mp h1
  obtain ⟨b2, e2⟩ := List.getElem?_eq_some_iff.mp h2
  exact (List.getElem_inj h).mp (e1.trans e2.symm)
theorem SOk.write {n : Nat} {p : Addr} {o : HO} {c : Cell} (so : SOk K mg H r t S) (hn : r[n]? = some p) (hc : CellOk K mg (upd H p o) r t p c) : SOk K mg (upd H p o) r t (S.set n c) := by
  have hm : p ∈ r := List.mem_of_getElem? hn
  obtain ⟨u, hu, mu⟩ := so.memThere hm
  refine ⟨by rw [List.length_set]; exact so.len, so.nd, fun j a d h1 h2 => ?_, fun a ha => ⟨(Ext.write (o := o) hu mu hm).there a (so.hid a ha).1, (so.hid a ha).2⟩⟩
  by_cases hj : n = j
  · subst hj
    rw [hn] at h1
    have z1 : p = a := Option.some.inj h1
    subst z1
    rw [List.getElem?_set_self (by rw [← so.len]; exact (List.getElem?_eq_some_iff.mp hn).1)] at h2
    have z2 : c = d := Option.some.inj h2
    subst z2
    exact hc
  · rw [List.getElem?_set_ne hj] at h2
    exact (so.ok j a d h1 h2).at so (Ext.write hu mu hm) (upd_ne fun e => hj (by subst e; exact nodup_get so.nd hn h1))
end
end DL
end L2

set_option Elab.async false
set_option linter.all false
set_option maxRecDepth 100000
namespace L2
namespace DL
open PySem PySem.Spec PyProof.Rows

abbrev DE := Ev → Sto → Out D
abbrev DB := Ev → Sto → Out Bool
abbrev DA := Ev → Sto → Out (List D)
abbrev Fn := List D → Sto → Out D

/-! ### what is wanted of an outcome -/
section
variable (K : PySem.W.Frag) (mg : Str → Option Value) (t : List Addr) (E : Addr → Hp → Prop)
def Good {A : Type} (r : List Addr) (H : Hp) (m : Out A) (R : A → Sto → List Addr → Hp → Prop) : Prop := match m with
  | .ok a S => ∀ H' r', Ext r H r' H' → SOk K mg H' r' t S → R a S r' H'
  | .exc c S => ∀ C H' r', mg c = some (.ref C) → Ext r H r' H' → SOk K mg H' r' t S → E C H'
  | .bad => False
end
section
variable {K : PySem.W.Frag} {mg : Str → Option Value} {t : List Addr} {E : Addr → Hp → Prop} {r r1 : List Addr} {H H1 : Hp} {A B : Type} {S : Sto}
theorem Good.ext {m : Out A} {R : A → Sto → List Addr → Hp → Prop} (g : Good K mg t E r H m R) (e : Ext r H r1 H1) : Good K mg t E r1 H1 m R := by
  cases m with
  | ok a S => exact fun H' r' e' so => g H' r' (e.trans e') so
  | exc c S => exact fun C H' r' h e' so => g C H' r' h (e.trans e') so
  | bad => exact g
theorem Good.bind {m : Out A} {k : A → Sto → Out B} {R : B → Sto → List Addr → Hp → Prop} (g : Good K mg t E r H (m.bind k) R) : Good K mg t E r H m fun a S r' H' => Good K mg t E r' H' (k a S) R := by
  cases m with
  | ok a S => exact fun H' r' e so => Good.ext (show Good K mg t E r H (k a S) R from g) e
  | exc c S => exact g
  | bad => exact g
theorem Good.mono {m : Out A} {R R' : A → Sto → List Addr → Hp → Prop} (g : Good K mg t E r H m R) (h : ∀ a S r' H', Ext r H r' H' → SOk K mg H' r' t S → R a S r' H' → R' a S r' H') : Good K mg t E r H m R' := by
  cases m with
  | ok a S => exact fun H' r' e so => h a S r' H' e so (g H' r' e so)
  | exc c S => exact g
  | bad => exact g
theorem Good.here {a : A} {R : A → Sto → List Addr → Hp → Prop} (g : Good K mg t E r H (.ok a S) R) (so : SOk K mg H r t S) : R a S r H := g H r (Ext.refl r H) so
theorem Good.lift {o : Option A} {R : A → Sto → List Addr → Hp → Prop} (g : Good K mg t E r H (lift o S) R) : ∃ a, o = some a ∧ Good K mg t E r H (.ok a S) R := by
  cases o with
  | none => exact (show False from g).elim
  | some a => exact ⟨a, rfl, g⟩
end

/-! ### readings -/
abbrev EW (W : WX) (σ : St) : Addr → Hp → Prop := fun C H' => W (.ref C) none σ H'
def tE (X : Cx) (W : WX) (f : DE) : TE := fun σ H Q => ∃ r t S env, Rel X.K X.mg H r t S env σ ∧ Good X.K X.mg t (EW W σ) r H (f env S) fun d _ r' H' => ∀ v, Den X.K H' r' t v d → Q v H'
def tB' (X : Cx) (W : WX) (f : DB) : TT := fun σ H Q => ∃ r t S env, Rel X.K X.mg H r t S env σ ∧ Good X.K X.mg t (EW W σ) r H (f env S) fun d _ r' H' => Q d H'
def tA (X : Cx) (W : WX) (f : DA) : TA := fun σ H Q => ∃ r t S env, Rel X.K X.mg H r t S env σ ∧ Good X.K X.mg t (EW W σ) r H (f env S) fun ds _ r' H' => ∀ vs, DenL X.K H' r' t vs ds → Q vs H'

section
variable {X : Cx} {W : WX} {e a b c : Expr} {es : List Expr} {f fa fb fc : DE} {pos : Pos} {te : TE} {σ : St} {H : Hp}
theorem PE.imp {e : Expr} {u u' : TE} (h : PE X e u) (k : ∀ σ H Q, u' σ H Q → u σ H Q) : PE X e u' := ⟨fun pins s σ H Q I q => h.run pins s σ H Q I (k σ H Q q)⟩
theorem PT.imp {e : Expr} {u u' : TT} (h : PT X e u) (k : ∀ σ H Q, u' σ H Q → u σ H Q) : PT X e u' := ⟨fun pins s σ H Q I q => h.run pins s σ H Q I (k σ H Q q)⟩
theorem PA.imp {e : List Expr} {u u' : TA} (h : PA X e u) (k : ∀ σ H Q, u' σ H Q → u σ H Q) : PA X e u' := ⟨fun pos pins s σ H Q I q => h.run pos pins s σ H Q I (k σ H Q q)⟩

/-- one expression, then what hangs on it -/
theorem tE_one {k : Ev → D → Sto → Out D} {Q : VK} {R : V → Hp → Prop} (h : tE X W (fun env S => (fa env S).bind (k env)) σ H Q)
    (hk : ∀ r t S env x v H', Rel X.K X.mg H' r t S env σ → Den X.K H' r t v x → Good X.K X.mg t (EW W σ) r H' (k env x S) (fun d _ r' H' => ∀ v, Den X.K H' r' t v d → Q v H') → R v H') : tE X W fa σ H R := by
  obtain ⟨r, t, S, env, rel, g⟩ := h
  exact ⟨r, t, S, env, rel, g.bind.mono fun x S1 r1 H1 e so g1 v dv => hk r1 t S1 env x v H1 (rel.ext e so) dv g1⟩
/-- two in a row -/
theorem tE_two {k : Ev → D → D → Sto → Out D} {Q : VK} {R : V → V → Hp → Prop} (h : tE X W (fun env S => (fa env S).bind fun x S1 => (fb env S1).bind fun y S2 => k env x y S2) σ H Q)
    (hk : ∀ r t S env x y v u H', Rel X.K X.mg H' r t S env σ → Den X.K H' r t v x → Den X.K H' r t u y → Good X.K X.mg t (EW W σ) r H' (k env x y S) (fun d _ r' H' => ∀ v, Den X.K H' r' t v d → Q v H') → R v u H') :
    tE X W fa σ H fun v H1 => tE X W fb σ H1 fun u H2 => R v u H2 := by
  obtain ⟨r, t, S, env, rel, g⟩ := h
  refine ⟨r, t, S, env, rel, g.bind.mono fun x S1 r1 H1 e so g1 v dv => ?_⟩
  exact ⟨r1, t, S1, env, rel.ext e so, g1.bind.mono fun y S2 r2 H2 e2 so2 g2 u du => hk r2 t S2 env x y v u H2 ((rel.ext e so).ext e2 so2) (Den.ext e2 x v dv) du g2⟩

/-! ### names, constants -/
def dVar (i : Nat) : DE := fun env S => match env[i]? with
  | some (some d) => .ok d S
  | _ => .bad
def dC (d : D) : DE := fun _ S => .ok d S
theorem de_var (i : Nat) {x : Str} {pos : Pos} (hN : X.N[i]? = some x := by rfl) (hv : Vis X.env.scope x := by first | exact Or.inl rfl | exact Or.inr (Or.inl rfl) | exact Or.inr (Or.inr rfl)) (hd : (x == ("__debug__" : Str)) = false := by decide)
    (hcd : (x == ("__classdict__" : Str)) = false := by decide) : PE X (.Name x pos) (tE X W (dVar i)) := by
  refine PE.imp (pe_var hN hv hd hcd) fun σ H Q h => ?_
  obtain ⟨r, t, S, env, rel, g⟩ := h
  unfold dVar at g
  split at g
  · rename_i d q
    obtain ⟨v, h1, h2⟩ := rel.en i d q
    exact ⟨v, h1, g.here rel.so v h2⟩
  · exact (show False from g).elim
theorem de_const {v : V} {d : D} (h : PE X e (tC v)) (hd : ∀ K H r t, Den K H r t v d) : PE X e (tE X W (dC d)) := by
  refine PE.imp h fun σ H Q q => ?_
  obtain ⟨r, t, S, env, rel, g⟩ := q
  exact g.here rel.so v (hd _ _ _ _)
theorem de_int {i j} : PE X (.Constant (.int i) j pos) (tE X W (dC (.int i))) := de_const pe_int fun _ _ _ _ => .int i
theorem de_bl {b j} : PE X (.Constant (.bool b) j pos) (tE X W (dC (.bl b))) := de_const pe_bl fun _ _ _ _ => .bl b
theorem de_non {j} : PE X (.Constant .none j pos) (tE X W (dC .non)) := de_const pe_non fun _ _ _ _ => .non
theorem de_str {x j} : PE X (.Constant (.str x) j pos) (tE X W (dC (.str x))) := de_const pe_str fun _ _ _ _ => .str x
theorem de_ty {x : Str} {n : String} (hg : Gl X x) (hm : X.mg x = none) (hv : bootBuiltins x = some (.type n)) (hn : x ≠ "__name__" := by decide) (hd : (x == ("__debug__" : Str)) = false := by decide) : PE X (.Name x pos) (tE X W (dC (.ty n))) :=
  de_const (pe_bltn hg hm hv (v := .ty n) rfl hn hd) fun _ _ _ _ => .ty n
/-- a constant of the module -/
theorem de_glob {x : Str} {v : V} {u : Value} {d : D} (hg : Gl X x) (hm : X.mg x = some u) (rv : RelV v u) (hd : ∀ H r t, Den X.K H r t v d) (hb : (x == ("__debug__" : Str)) = false := by decide) : PE X (.Name x pos) (tE X W (dC d)) := by
  refine PE.imp (pe_glob hg hm rv hb) fun σ H Q q => ?_
  obtain ⟨r, t, S, env, rel, g⟩ := q
  exact g.here rel.so v (hd _ _ _)

/-! ### operators -/
structure OpD (X : Cx) (f : Value → Value → Sem Value) (o : Sto → D → D → Option D) : Prop where
  ex : ∃ rr : R2, OpR X f rr ∧ ∀ r t S H x y v u d (Q : VK), SOk X.K X.mg H r t S → Den X.K H r t v x → Den X.K H r t u y → o S x y = some d →
    (∀ w H', Ext r H r H' → SOk X.K X.mg H' r t S → Den X.K H' r t w d → Q w H') → rr v u H Q
def orO (o o' : Sto → D → D → Option D) : Sto → D → D → Option D := fun S x y => match o S x y with
  | some d => some d
  | none => o' S x y
theorem OpD.or {f : Value → Value → Sem Value} {o o' : Sto → D → D → Option D} (h : OpD X f o) (h' : OpD X f o') : OpD X f (orO o o') := by
  obtain ⟨r1, h1, k1⟩ := h
  obtain ⟨r2, h2, k2⟩ := h'
  refine ⟨_, h1.or h2, fun r t S H x y v u d Q so dx dy e q => ?_⟩
  unfold orO at e
  split at e
  · rename_i d' e'
    cases e
    exact .inl (k1 r t S H x y v u _ Q so dx dy e' q)
  · exact .inr (k2 r t S H x y v u d Q so dx dy e q)
def dBin (o : Sto → D → D → Option D) (fa fb : DE) : DE := fun env S => (fa env S).bind fun x S1 => (fb env S1).bind fun y S2 => lift (o S2 x y) S2
theorem tE_op {o : Sto → D → D → Option D} {f : Value → Value → Sem Value} {rr : R2} {Q : VK}
    (k : ∀ r t S H x y v u d (Q : VK), SOk X.K X.mg H r t S → Den X.K H r t v x → Den X.K H r t u y → o S x y = some d → (∀ w H', Ext r H r H' → SOk X.K X.mg H' r t S → Den X.K H' r t w d → Q w H') → rr v u H Q)
    (h : tE X W (dBin o fa fb) σ H Q) : tOp rr (tE X W fa) (tE X W fb) σ H Q :=
  tE_two h fun r t S env x y v u H' rel dx dy g => by
    obtain ⟨d, e, g⟩ := g.lift
    exact k r t S H' x y v u d Q rel.so dx dy e fun w H2 ex so dw => g H2 r ex so w dw
theorem de_bin {op : Operator} {o : Sto → D → D → Option D} (ho : OpD X (binaryOp op) o) (ha : PE X a (tE X W fa)) (hb : PE X b (tE X W fb)) : PE X (.BinOp a op b pos) (tE X W (dBin o fa fb)) := by
  obtain ⟨rr, h, k⟩ := ho
  exact PE.imp (pe_op h ha hb) fun σ H Q q => tE_op (f := binaryOp op) k q
theorem de_cmp {op : CmpOp} {o : Sto → D → D → Option D} (ho : OpD X (compareOp op) o) (ha : PE X a (tE X W fa)) (hb : PE X b (tE X W fb)) (hm : behindInMarks op b = false) : PE X (.Compare a [op] [b] pos) (tE X W (dBin o fa fb)) := by
  obtain ⟨rr, h, k⟩ := ho
  exact PE.imp (pe_cmpR h ha hb hm) fun σ H Q q => tE_op (f := compareOp op) k q
/-- a test by a value that is a truth -/
def asB : D → Option Bool
  | .bl b => some b
  | _ => none
def dTst (f : DE) : DB := fun env S => (f env S).bind fun d S1 => lift (asB d) S1
theorem asB_eq {d : D} {b : Bool} (h : asB d = some b) : d = .bl b := by
  cases d <;> simp [asB] at h
  rw [h]
theorem tB_test {te : TE} (h : ∀ σ H Q, tE X W f σ H Q → te σ H Q) {Q : Bool → Hp → Prop} (q : tB' X W (dTst f) σ H Q) : te σ H fun x H' => ∃ k, x = .bl k ∧ Q k H' := by
  refine h σ H _ ?_
  obtain ⟨r, t, S, env, rel, g⟩ := q
  refine ⟨r, t, S, env, rel, g.bind.mono fun x S1 r1 H1 e so g1 v dv => ?_⟩
  obtain ⟨b, eb, g2⟩ := g1.lift
  have ed := asB_eq eb
  subst ed
  cases dv
  exact ⟨b, rfl, g2.here so⟩
theorem dt_cmp {op : CmpOp} {o : Sto → D → D → Option D} (ho : OpD X (compareOp op) o) (ha : PE X a (tE X W fa)) (hb : PE X b (tE X W fb)) (hm : behindInMarks op b = false) : PT X (.Compare a [op] [b] pos) (tB' X W (dTst (dBin o fa fb))) := by
  obtain ⟨rr, h, k⟩ := ho
  exact PT.imp (pt_cmpR h ha hb hm) fun σ H Q q => tB_test (te := tOp rr (tE X W fa) (tE X W fb)) (fun σ H Q q => tE_op (f := compareOp op) k q) q
theorem dt_val (he : PE X e (tE X W f)) (ht : ∀ whole, isTrue e X.env whole = (do let v ← whole; standAt e.pos; holding [v] (truthy v)) := by intro _; rfl) : PT X e (tB' X W (dTst f)) :=
  PT.imp (pt_val he ht) fun σ H Q q => tB_test (te := tE X W f) (fun _ _ _ z => z) q
/-- a op1 b op2 c -/
def dChain (o o' : Sto → D → D → Option D) (fa fb fc : DE) : DE := fun env S => (fa env S).bind fun x S1 => (fb env S1).bind fun y S2 => (lift (o S2 x y) S2).bind fun z S3 => (lift (asB z) S3).bind fun k S4 =>
  if k = true then (fc env S4).bind fun w S5 => lift (o' S5 y w) S5 else .ok (.bl false) S4
theorem tE_chain {o o' : Sto → D → D → Option D} {f f' : Value → Value → Sem Value} {rr rr' : R2} {Q : VK}
    (k : ∀ r t S H x y v u d (Q : VK), SOk X.K X.mg H r t S → Den X.K H r t v x → Den X.K H r t u y → o S x y = some d → (∀ w H', Ext r H r H' → SOk X.K X.mg H' r t S → Den X.K H' r t w d → Q w H') → rr v u H Q)
    (k' : ∀ r t S H x y v u d (Q : VK), SOk X.K X.mg H r t S → Den X.K H r t v x → Den X.K H r t u y → o' S x y = some d → (∀ w H', Ext r H r H' → SOk X.K X.mg H' r t S → Den X.K H' r t w d → Q w H') → rr' v u H Q)
    (h : tE X W (dChain o o' fa fb fc) σ H Q) : tChain rr rr' (tE X W fa) (tE X W fb) (tE X W fc) σ H Q :=
  tE_two h fun r t S env x y v u H' rel dx dy g => by
    obtain ⟨z, e, g⟩ := g.bind.lift
    refine k r t S H' x y v u z _ rel.so dx dy e fun w H2 ex so dw => ?_
    have g2 := (g H2 r ex so).bind
    obtain ⟨kk, e2, g3⟩ := g2.lift
    have ez := asB_eq e2
    subst ez
    cases dw
    refine ⟨kk, rfl, ?_⟩
    have g4 := g3.here so
    cases kk with
    | false =>
      rw [if_neg Bool.false_ne_true] at g4 ⊢
      exact g4.here so _ (.bl false)
    | true =>
      rw [if_pos rfl] at g4 ⊢
      refine ⟨r, t, S, env, rel.ext ex so, g4.bind.mono fun x2 S5 r5 H5 e5 so5 g5 v5 d5 => ?_⟩
      obtain ⟨d, e6, g6⟩ := g5.lift
      exact k' r5 t S5 H5 y x2 u v5 d Q so5 (Den.ext e5 _ _ (Den.ext ex _ _ dy)) d5 e6 fun w H6 ex6 so6 dw6 => g6 H6 r5 ex6 so6 w dw6
theorem de_chain {op op' : CmpOp} {o o' : Sto → D → D → Option D} (ho : OpD X (compareOp op) o) (ho' : OpD X (compareOp op') o') (ha : PE X a (tE X W fa)) (hb : PE X b (tE X W fb)) (hc : PE X c (tE X W fc))
    (hm : lastMarks [op, op'] [b, c] = false := by with_unfolding_all rfl) : PE X (.Compare a [op, op'] [b, c] pos) (tE X W (dChain o o' fa fb fc)) := by
  obtain ⟨rr, h, k⟩ := ho
  obtain ⟨rr', h', k'⟩ := ho'
  exact PE.imp (pe_chain h h' ha hb hc hm) fun σ H Q q => tE_chain (f := compareOp op) (f' := compareOp op') k k' q
theorem dt_chain {op op' : CmpOp} {o o' : Sto → D → D → Option D} (ho : OpD X (compareOp op) o) (ho' : OpD X (compareOp op') o') (ha : PE X a (tE X W fa)) (hb : PE X b (tE X W fb)) (hc : PE X c (tE X W fc))
    (hm : lastMarks [op, op'] [b, c] = false := by with_unfolding_all rfl) : PT X (.Compare a [op, op'] [b, c] pos) (tB' X W (dTst (dChain o o' fa fb fc))) := by
  obtain ⟨rr, h, k⟩ := ho
  obtain ⟨rr', h', k'⟩ := ho'
  exact PT.imp (pt_chain h h' ha hb hc hm) fun σ H Q q => tB_test (te := tChain rr rr' (tE X W fa) (tE X W fb) (tE X W fc)) (fun σ H Q q => tE_chain (f := compareOp op) (f' := compareOp op') k k' q) q

/-! ### and, or, not, if else -/
def dAnd (fa fb : DE) : DE := fun env S => (fa env S).bind fun x S1 => (lift (asB x) S1).bind fun k S2 => if k = true then fb env S2 else .ok (.bl false) S2
def dOr (fa fb : DE) : DE := fun env S => (fa env S).bind fun x S1 => (lift (asB x) S1).bind fun k S2 => if k = true then .ok (.bl true) S2 else fb env S2
def dNot (fa : DE) : DE := fun env S => (fa env S).bind fun x S1 => (lift (asB x) S1).bind fun k S2 => .ok (.bl (!k)) S2
def bAnd (ta tb : DB) : DB := fun env S => (ta env S).bind fun k S1 => if k = true then tb env S1 else .ok false S1
def bOr (ta tb : DB) : DB := fun env S => (ta env S).bind fun k S1 => if k = true then .ok true S1 else tb env S1
def bNot (ta : DB) : DB := fun env S => (ta env S).bind fun k S1 => .ok (!k) S1
def dIf (tc : DB) (fa fb : DE) : DE := fun env S => (tc env S).bind fun k S1 => if k = true then fa env S1 else fb env S1
variable {rest : List Expr} {ga gb : DB}
theorem de_and (ha : PE X a (tE X W fa)) (hb : PE X (.BoolOp .And (b :: rest) pos) (tE X W fb)) : PE X (.BoolOp .And (a :: b :: rest) pos) (tE X W (dAnd fa fb)) := by
  refine PE.imp (pe_and ha hb) fun σ H Q q => ?_
  obtain ⟨r, t, S, env, rel, g⟩ := q
  refine ⟨r, t, S, env, rel, g.bind.mono fun x S1 r1 H1 e so g1 v dv => ?_⟩
  obtain ⟨k, ek, g2⟩ := g1.bind.lift
  have ed := asB_eq ek
  subst ed
  cases dv
  refine ⟨k, rfl, ?_⟩
  have g3 := g2.here so
  cases k with
  | true => exact iteT ⟨r1, t, S1, env, rel.ext e so, g3⟩
  | false => exact iteF (Good.here g3 so _ (.bl false))
theorem de_or (ha : PE X a (tE X W fa)) (hb : PE X (.BoolOp .Or (b :: rest) pos) (tE X W fb)) : PE X (.BoolOp .Or (a :: b :: rest) pos) (tE X W (dOr fa fb)) := by
  refine PE.imp (pe_or ha hb) fun σ H Q q => ?_
  obtain ⟨r, t, S, env, rel, g⟩ := q
  refine ⟨r, t, S, env, rel, g.bind.mono fun x S1 r1 H1 e so g1 v dv => ?_⟩
  obtain ⟨k, ek, g2⟩ := g1.bind.lift
  have ed := asB_eq ek
  subst ed
  cases dv
  refine ⟨k, rfl, ?_⟩
  have g3 := g2.here so
  cases k with
  | false => exact iteF ⟨r1, t, S1, env, rel.ext e so, g3⟩
  | true => exact iteT (Good.here g3 so _ (.bl true))
theorem de_one {op} (ha : PE X a (tE X W fa)) : PE X (.BoolOp op [a] pos) (tE X W fa) := pe_one ha
theorem de_not (ha : PE X a (tE X W fa)) : PE X (.UnaryOp .Not a pos) (tE X W (dNot fa)) := by
  refine PE.imp (pe_not ha) fun σ H Q q => ?_
  obtain ⟨r, t, S, env, rel, g⟩ := q
  refine ⟨r, t, S, env, rel, g.bind.mono fun x S1 r1 H1 e so g1 v dv => ?_⟩
  obtain ⟨k, ek, g2⟩ := g1.bind.lift
  have ed := asB_eq ek
  subst ed
  cases dv
  exact ⟨k, rfl, Good.here (g2.here so) so _ (.bl (!k))⟩
theorem PW.imp {e : Expr} {u u' : TT} (h : PW X e u) (k : ∀ σ H Q, u' σ H Q → u σ H Q) : PW X e u' := ⟨fun wh pins s σ H Q I q => h.run wh pins s σ H Q I (k σ H Q q)⟩
theorem dw_and1 (ha : PT X a (tB' X W ga)) : PW X (.BoolOp .And [a] pos) (tB' X W ga) := pw_and1 ha
theorem dw_or1 (ha : PT X a (tB' X W ga)) : PW X (.BoolOp .Or [a] pos) (tB' X W ga) := pw_or1 ha
theorem dw_and (ha : PT X a (tB' X W ga)) (hb : PW X (.BoolOp .And (b :: rest) pos) (tB' X W gb)) : PW X (.BoolOp .And (a :: b :: rest) pos) (tB' X W (bAnd ga gb)) := by
  refine PW.imp (pw_and ha hb) fun σ H Q q => ?_
  obtain ⟨r, t, S, env, rel, g⟩ := q
  refine ⟨r, t, S, env, rel, g.bind.mono fun k S1 r1 H1 e so g1 => ?_⟩
  cases k with
  | true => exact iteT ⟨r1, t, S1, env, rel.ext e so, g1⟩
  | false => exact iteF (Good.here g1 so)
theorem dw_or (ha : PT X a (tB' X W ga)) (hb : PW X (.BoolOp .Or (b :: rest) pos) (tB' X W gb)) : PW X (.BoolOp .Or (a :: b :: rest) pos) (tB' X W (bOr ga gb)) := by
  refine PW.imp (pw_or ha hb) fun σ H Q q => ?_
  obtain ⟨r, t, S, env, rel, g⟩ := q
  refine ⟨r, t, S, env, rel, g.bind.mono fun k S1 r1 H1 e so g1 => ?_⟩
  cases k with
  | false => exact iteF ⟨r1, t, S1, env, rel.ext e so, g1⟩
  | true => exact iteT (Good.here g1 so)
theorem dt_not (ha : PT X a (tB' X W ga)) : PT X (.UnaryOp .Not a pos) (tB' X W (bNot ga)) := by
  refine PT.imp (pt_not ha) fun σ H Q q => ?_
  obtain ⟨r, t, S, env, rel, g⟩ := q
  exact ⟨r, t, S, env, rel, g.bind.mono fun k S1 r1 H1 e so g1 => Good.here g1 so⟩
theorem de_if {c : Expr} (hc : PT X c (tB' X W ga)) (ha : PE X a (tE X W fa)) (hb : PE X b (tE X W fb)) : PE X (.IfExp c a b pos) (tE X W (dIf ga fa fb)) := by
  refine PE.imp (pe_ifExp hc ha hb) fun σ H Q q => ?_
  obtain ⟨r, t, S, env, rel, g⟩ := q
  refine ⟨r, t, S, env, rel, g.bind.mono fun k S1 r1 H1 e so g1 => ?_⟩
  cases k with
  | true => exact iteT ⟨r1, t, S1, env, rel.ext e so, g1⟩
  | false => exact iteF ⟨r1, t, S1, env, rel.ext e so, g1⟩

/-! ### argument lists, displays -/
def aNil : DA := fun _ S => .ok [] S
def aCons (f : DE) (g : DA) : DA := fun env S => (f env S).bind fun d S1 => (g env S1).bind fun ds S2 => .ok (d :: ds) S2
variable {fs : DA}
theorem da_nil : PA X [] (tA X W aNil) := by
  refine PA.imp pa_nil fun σ H Q q => ?_
  obtain ⟨r, t, S, env, rel, g⟩ := q
  exact Good.here g rel.so [] .nil
theorem da_cons (ha : PE X e (tE X W f)) (hr : PA X es (tA X W fs)) (hs : starEach (e :: es) X.env = (false, eval e X.env) :: starEach es X.env := by rfl) : PA X (e :: es) (tA X W (aCons f fs)) := by
  refine PA.imp (pa_cons ha hr hs) fun σ H Q q => ?_
  obtain ⟨r, t, S, env, rel, g⟩ := q
  refine ⟨r, t, S, env, rel, g.bind.mono fun d S1 r1 H1 ex so g1 v dv => ?_⟩
  refine ⟨r1, t, S1, env, rel.ext ex so, g1.bind.mono fun ds S2 r2 H2 ex2 so2 g2 vs dvs => ?_⟩
  exact Good.here g2 so2 _ (.cons (Den.ext ex2 _ _ dv) dvs)
def dTup (fs : DA) : DE := fun env S => (fs env S).bind fun ds S1 => if ds.length ≤ sizeLine then .ok (.tup ds) S1 else .bad
def dLst (fs : DA) : DE := fun env S => (fs env S).bind fun ds S1 => if ds.length ≤ sizeLine then .ok (.lst ds) S1 else .bad
/-- a list that will be changed -/
def dCell (fs : DA) : DE := fun env S => (fs env S).bind fun ds S1 => if ds.length ≤ sizeLine then .ok (.ref S1.length) (S1 ++ [.lst ds]) else .bad
theorem Good.ite {A : Type} {K : PySem.W.Frag} {mg : Str → Option Value} {t : List Addr} {E : Addr → Hp → Prop} {r : List Addr} {p : Prop} [Decidable p] {m : Out A} {R : A → Sto → List Addr → Hp → Prop}
    (g : Good K mg t E r H (if p then m else .bad) R) : p ∧ Good K mg t E r H m R := by
  by_cases h : p
  · rw [if_pos h] at g; exact ⟨h, g⟩
  · rw [if_neg h] at g; exact (show False from g).elim
theorem de_tup {x1} (h : PA X es (tA X W fs)) : PE X (.Tuple es x1 pos) (tE X W (dTup fs)) := by
  refine PE.imp (pe_tup h) fun σ H Q q => ?_
  obtain ⟨r, t, S, env, rel, g⟩ := q
  refine ⟨r, t, S, env, rel, g.bind.mono fun ds S1 r1 H1 ex so g1 vs dvs => ?_⟩
  obtain ⟨hl, g2⟩ := g1.ite
  refine ⟨by rw [dvs.length]; exact hl, fun p hp => ?_⟩
  exact g2 _ r1 (Ext.new hp) (so.new hp) _ (.tup (.inl (.inl upd_same)) (DenL.ext (Ext.new hp) _ _ dvs))
theorem notinNew {K : PySem.W.Frag} {mg : Str → Option Value} {r t : List Addr} {S : Sto} {p : Addr} (so : SOk K mg H r t S) (hp : H p = none) : p ∉ r ∧ p ∉ t := by
  refine ⟨fun z => ?_, fun z => (so.hid p z).1 hp⟩
  obtain ⟨o, e, _⟩ := so.memThere z
  rw [hp] at e; cases e
theorem de_lst (h : PA X es (tA X W fs)) : PE X (.List es pos) (tE X W (dLst fs)) := by
  refine PE.imp (pe_lst h) fun σ H Q q => ?_
  obtain ⟨r, t, S, env, rel, g⟩ := q
  refine ⟨r, t, S, env, rel, g.bind.mono fun ds S1 r1 H1 ex so g1 vs dvs => ?_⟩
  obtain ⟨hl, g2⟩ := g1.ite
  refine ⟨by rw [dvs.length]; exact hl, fun p hp => ?_⟩
  have nn := notinNew so hp
  exact g2 _ r1 (Ext.new hp) (so.new hp) _ (.lst upd_same nn.1 nn.2 (DenL.ext (Ext.new hp) _ _ dvs))
theorem growL {K : PySem.W.Frag} {mg : Str → Option Value} {r t : List Addr} {S : Sto} {p : Addr} {vs : List V} {ds : List D} (so : SOk K mg H r t S) (hp : H p = none) (h : DenL K H r t vs ds) :
    SOk K mg (upd H p (.lst vs)) (r ++ [p]) t (S ++ [.lst ds]) ∧ Den K (upd H p (.lst vs)) (r ++ [p]) t (.ref p) (.ref S.length) := by
  refine ⟨so.grow hp ⟨vs, upd_same, DenL.ext (Ext.grow hp) _ _ h⟩, .ref ?_⟩
  rw [← so.len, List.getElem?_append_right (Nat.le_refl _), Nat.sub_self]
  rfl
theorem de_cell (h : PA X es (tA X W fs)) : PE X (.List es pos) (tE X W (dCell fs)) := by
  refine PE.imp (pe_lst h) fun σ H Q q => ?_
  obtain ⟨r, t, S, env, rel, g⟩ := q
  refine ⟨r, t, S, env, rel, g.bind.mono fun ds S1 r1 H1 ex so g1 vs dvs => ?_⟩
  obtain ⟨hl, g2⟩ := g1.ite
  refine ⟨by rw [dvs.length]; exact hl, fun p hp => ?_⟩
  obtain ⟨so2, d2⟩ := growL so hp dvs
  exact g2 _ _ (Ext.grow hp) so2 _ d2

/-! ### calls -/
structure CallD (X : Cx) (f : Value) (o : Sto → List D → Option D) : Prop where
  ex : ∃ rr : List V → Hp → VK → Prop, CallR X f rr ∧ ∀ r t S H ds vs d (Q : VK), SOk X.K X.mg H r t S → DenL X.K H r t vs ds → o S ds = some d →
    (∀ w H', Ext r H r H' → SOk X.K X.mg H' r t S → Den X.K H' r t w d → Q w H') → rr vs H Q
def orC (o o' : Sto → List D → Option D) : Sto → List D → Option D := fun S x => match o S x with
  | some d => some d
  | none => o' S x
theorem CallD.or {f : Value} {o o' : Sto → List D → Option D} (h : CallD X f o) (h' : CallD X f o') : CallD X f (orC o o') := by
  obtain ⟨r1, h1, k1⟩ := h
  obtain ⟨r2, h2, k2⟩ := h'
  refine ⟨_, CallR.or h1 h2, fun r t S H ds vs d Q so dv e q => ?_⟩
  unfold orC at e
  split at e
  · rename_i d' e'
    cases e
    exact .inl (k1 r t S H ds vs _ Q so dv e' q)
  · exact .inr (k2 r t S H ds vs d Q so dv e q)
def dCall (o : Sto → List D → Option D) (fs : DA) : DE := fun env S => (fs env S).bind fun ds S1 => lift (o S1 ds) S1
theorem tE_call {o : Sto → List D → Option D} {rr : List V → Hp → VK → Prop} {Q : VK}
    (k : ∀ r t S H ds vs d (Q : VK), SOk X.K X.mg H r t S → DenL X.K H r t vs ds → o S ds = some d → (∀ w H', Ext r H r H' → SOk X.K X.mg H' r t S → Den X.K H' r t w d → Q w H') → rr vs H Q)
    (h : tE X W (dCall o fs) σ H Q) : tCB rr (tA X W fs) σ H Q := by
  obtain ⟨r, t, S, env, rel, g⟩ := h
  refine ⟨r, t, S, env, rel, g.bind.mono fun ds S1 r1 H1 ex so g1 vs dvs => ?_⟩
  obtain ⟨d, e, g2⟩ := g1.lift
  exact k r1 t S1 H1 ds vs d Q so dvs e fun w H2 e2 so2 dw => g2 H2 r1 e2 so2 w dw
theorem de_callB {id : String} {x : Str} {p : Pos} {o : Sto → List D → Option D} (hc : CallD X (.builtin id) o) (hg : Gl X x) (hm : X.mg x = none) (hv : bootBuiltins x = some (.builtin id)) (ha : PA X (e :: es) (tA X W fs)) (hn : x ≠ "__name__" := by decide) (hdb : (x == ("__debug__" : Str)) = false := by decide)
    (he : starEach (e :: es) X.env = (false, eval e X.env) :: starEach es X.env := by rfl) (hpl : (backTo pos (starEach es X.env)).any (·.1) = false := by rfl) : PE X (.Call (.Name x p) (e :: es) [] pos) (tE X W (dCall o fs)) := by
  obtain ⟨rr, h, k⟩ := hc
  exact PE.imp (pe_callB h hg hm hv ha hn hdb he hpl) fun σ H Q q => tE_call k q
theorem de_callTy {T : String} {x : Str} {p : Pos} {o : Sto → List D → Option D} (hc : CallD X (.type T) o) (hg : Gl X x) (hm : X.mg x = none) (hv : bootBuiltins x = some (.type T)) (ha : PA X (e :: es) (tA X W fs)) (hn : x ≠ "__name__" := by decide) (hdb : (x == ("__debug__" : Str)) = false := by decide)
    (he : starEach (e :: es) X.env = (false, eval e X.env) :: starEach es X.env := by rfl) (hpl : (backTo pos (starEach es X.env)).any (·.1) = false := by rfl) : PE X (.Call (.Name x p) (e :: es) [] pos) (tE X W (dCall o fs)) := by
  obtain ⟨rr, h, k⟩ := hc
  exact PE.imp (pe_callTy h hg hm hv ha hn hdb he hpl) fun σ H Q q => tE_call k q
/-- a def's promise by its function -/
def spD (K : PySem.W.Frag) (mg : Str → Option Value) (n : Nat) (f : Fn) : Sp := fun vs H Q E => vs.length = n ∧ ∃ r t S ds, SOk K mg H r t S ∧ DenL K H r t vs ds ∧ Good K mg t (fun C H' => E (.ref C) none H') r H (f ds S) fun d _ r' H' => ∀ v, Den K H' r' t v d → Q v H'
def dCallF (f : Fn) (fs : DA) : DE := fun env S => (fs env S).bind fun ds S1 => f ds S1
def Thru (CX : CXT) (X : Cx) (W : WX) : Prop := ∀ σ, PassesAt CX X σ (WE W σ)
theorem thru0 : Thru CX0 X W := fun _ _ _ _ _ _ _ h => h.elim
theorem thruX (tk : Takes X W) : Thru (L2.CX X.prog X.w) X W := fun σ => passAt tk σ
/-- the arguments' number is told by the written ones -/
theorem denLen {ds : List D} {vs : List V} {K : PySem.W.Frag} {r t : List Addr} (h : DenL K H r t vs ds) : vs.length = ds.length := h.length
structure ArgN (X : Cx) (W : WX) (es : List Expr) (fs : DA) (n : Nat) : Prop where
  pa : PA X es (tA X W fs)
  num : ∀ env S ds S', fs env S = .ok ds S' → ds.length = n
theorem an_nil : ArgN X W [] aNil 0 := ⟨da_nil, fun _ _ _ _ h => by cases h; rfl⟩
theorem an_cons {n : Nat} (ha : PE X e (tE X W f)) (hr : ArgN X W es fs n) (hs : starEach (e :: es) X.env = (false, eval e X.env) :: starEach es X.env := by rfl) : ArgN X W (e :: es) (aCons f fs) (n + 1) := by
  refine ⟨da_cons ha hr.pa hs, fun env S ds S' h => ?_⟩
  unfold aCons at h
  cases h1 : f env S with
  | ok d S1 =>
    rw [h1, Out.bind_ok] at h
    cases h2 : fs env S1 with
    | ok d2 S2 =>
      rw [h2, Out.bind_ok] at h
      cases h
      rw [List.length_cons, hr.num _ _ _ _ h2]
    | exc c S2 => rw [h2] at h; cases h
    | bad => rw [h2] at h; cases h
  | exc c S2 => rw [h1] at h; cases h
  | bad => rw [h1] at h; cases h
theorem de_callF {CX : CXT} {k n : Nat} {fa : Addr} {fd : FuncData} {ps : List Str} {fn : Fn} {x : Str} {p : Pos} (F : FnOk X.prog X.w X.K X.mg X.base CX k fa fd ps (spD X.K X.mg n fn)) (hr : Room k X.A) (hg : Gl X x) (hm : X.mg x = some (.ref fa)) (hk : PySem.W.keepIn X.K (.ref fa) = true) (hb : Binds X.K fd ps []) (hx : Thru CX X W)
    (ha : ArgN X W (e :: es) fs n) (hdb : (x == ("__debug__" : Str)) = false := by decide) (he : starEach (e :: es) X.env = (false, eval e X.env) :: starEach es X.env := by rfl) (hpl : (backTo pos (starEach es X.env)).any (·.1) = false := by rfl) :
    PE X (.Call (.Name x p) (e :: es) [] pos) (tE X W (dCallF fn fs)) := by
  refine PE.imp (pe_callS F hr hg hm hk hb hx ha.pa hdb he hpl) fun σ H Q q => ?_
  obtain ⟨r, t, S, env, rel, g⟩ := q
  have num := ha.num env S
  unfold dCallF at g
  cases h : fs env S with
  | ok ds S1 =>
    rw [h, Out.bind_ok] at g
    refine ⟨r, t, S, env, rel, ?_⟩
    rw [h]
    exact fun H1 r1 ex so vs dvs => ⟨dvs.length.trans (num _ _ h), r1, t, S1, ds, so, dvs, g.ext ex⟩
  | exc c S1 =>
    rw [h, Out.bind_exc] at g
    refine ⟨r, t, S, env, rel, ?_⟩
    rw [h]
    exact g
  | bad =>
    rw [h] at g
    exact (show False from g).elim
end
end DL
end L2

set_option Elab.async false
set_option linter.all false
set_option maxRecDepth 100000
namespace L2
namespace DL
open PySem PySem.Spec PyProof.Rows

/-! ### ints, texts -/
def iOp (c : Int → Int → Bool) (g : Int → Int → D) : Sto → D → D → Option D := fun _ x y => match x, y with
  | .int i, .int j => if c i j = true then some (g i j) else none
  | _, _ => none
theorem opd_int {X : Cx} {f : Value → Value → Sem Value} {C : Int → Int → Prop} {c : Int → Int → Bool} {g : Int → Int → V} {gd : Int → Int → D} (h : OpR X f (rI C g)) (hc : ∀ i j, c i j = true → C i j) (hg : ∀ i j K H r t, Den K H r t (g i j) (gd i j)) : OpD X f (iOp c gd) := by
  refine ⟨_, h, fun r t S H x y v u d Q so dx dy e q => ?_⟩
  unfold iOp at e
  split at e
  · rename_i i j
    cases dx
    cases dy
    by_cases hh : c i j = true
    · rw [if_pos hh] at e
      cases e
      exact ⟨i, j, rfl, rfl, hc i j hh, q _ _ (Ext.refl r H) so (hg _ _ _ _ _ _)⟩
    · rw [if_neg hh] at e
      cases e
  · cases e
theorem rI0_of {X : Cx} {f : Value → Value → Sem Value} {g : Int → Int → V} (h : OpR X f (rI0 g)) : OpR X f (rI (fun _ _ => True) g) := by
  intro pins s σ H x y v u Q I rx ry q
  obtain ⟨i, j, e1, e2, _, q⟩ := q
  exact h pins s σ H x y v u Q I rx ry ⟨i, j, e1, e2, q⟩
def yes2 : Int → Int → Bool := fun _ _ => true
theorem opd_int0 {X : Cx} {f : Value → Value → Sem Value} {g : Int → Int → V} {gd : Int → Int → D} (h : OpR X f (rI0 g)) (hg : ∀ i j K H r t, Den K H r t (g i j) (gd i j)) : OpD X f (iOp yes2 gd) := opd_int (rI0_of h) (fun _ _ _ => trivial) hg
section
variable {X : Cx}
def mulC (i j : Int) : Bool := decide (i.natAbs < 2 ^ 64) || decide (j.natAbs < 2 ^ 64)
def modC (_ j : Int) : Bool := decide (0 < j)
def divC (_ j : Int) : Bool := decide (0 < j) && decide (j < 2 ^ 80)
def powC (i j : Int) : Bool := decide (0 ≤ j) && decide (j ≤ 1000000) && decide (i.natAbs < 2 ^ 64)
def oAddI : Sto → D → D → Option D := iOp yes2 fun i j => .int (i + j)
def oSub : Sto → D → D → Option D := iOp yes2 fun i j => .int (i - j)
def oMulI : Sto → D → D → Option D := iOp mulC fun i j => .int (i * j)
def oMod : Sto → D → D → Option D := iOp modC fun i j => .int (i % j)
def oDiv : Sto → D → D → Option D := iOp divC fun i j => .int (i / j)
def oPow : Sto → D → D → Option D := iOp powC fun i j => .int (i ^ j.toNat)
theorem od_addI : OpD X (binaryOp .Add) oAddI := opd_int0 op_add fun _ _ _ _ _ _ => .int _
theorem od_sub : OpD X (binaryOp .Sub) oSub := opd_int0 op_sub fun _ _ _ _ _ _ => .int _
theorem od_mulI : OpD X (binaryOp .Mult) oMulI := opd_int op_mul (fun i j h => by
  unfold mulC at h
  rw [Bool.or_eq_true, decide_eq_true_eq, decide_eq_true_eq] at h
  rcases h with h | h
  · exact .inl ⟨by omega, by omega⟩
  · exact .inr ⟨by omega, by omega⟩) fun _ _ _ _ _ _ => .int _
theorem od_mod : OpD X (binaryOp .Mod) oMod := opd_int op_mod (fun i j h => of_decide_eq_true h) fun _ _ _ _ _ _ => .int _
theorem od_div : OpD X (binaryOp .FloorDiv) oDiv := opd_int op_fdivW (fun i j h => by
  unfold divC at h
  rw [Bool.and_eq_true, decide_eq_true_eq, decide_eq_true_eq] at h
  exact wide_div (b := 80) h.1 (by omega) (by decide) (by decide)) fun _ _ _ _ _ _ => .int _
theorem od_pow : OpD X (binaryOp .Pow) oPow := opd_int op_pow (fun i j h => by
  unfold powC at h
  rw [Bool.and_eq_true, Bool.and_eq_true, decide_eq_true_eq, decide_eq_true_eq, decide_eq_true_eq] at h
  exact ⟨h.1.1, h.1.2, h.2⟩) fun _ _ _ _ _ _ => .int _
def oLt : Sto → D → D → Option D := iOp yes2 fun i j => .bl (decide (i < j))
def oLe : Sto → D → D → Option D := iOp yes2 fun i j => .bl (decide (i ≤ j))
def oGt : Sto → D → D → Option D := iOp yes2 fun i j => .bl (decide (j < i))
def oGe : Sto → D → D → Option D := iOp yes2 fun i j => .bl (decide (j ≤ i))
theorem od_lt : OpD X (compareOp .Lt) oLt := opd_int0 op_lt fun _ _ _ _ _ _ => .bl _
theorem od_le : OpD X (compareOp .LtE) oLe := opd_int0 op_le fun _ _ _ _ _ _ => .bl _
theorem od_gt : OpD X (compareOp .Gt) oGt := opd_int0 op_gt fun _ _ _ _ _ _ => .bl _
theorem od_ge : OpD X (compareOp .GtE) oGe := opd_int0 op_ge fun _ _ _ _ _ _ => .bl _

/-! ### sequences -/
def lstOf (S : Sto) : D → Option (List D)
  | .lst ds => some ds
  | .ref n => match S[n]? with
    | some (.lst ds) => some ds
    | _ => none
  | _ => none
def listOf (S : Sto) : D → Option (List D)
  | .fz ds => some ds
  | d => lstOf S d
def tupOf : D → Option (List D)
  | .tup ds => some ds
  | _ => none
variable {K : PySem.W.Frag} {mg : Str → Option Value} {H : Hp} {r t : List Addr} {S : Sto} {d : D} {v : V} {ds : List D}
theorem lst_ok (so : SOk K mg H r t S) (dv : Den K H r t v d) (h : lstOf S d = some ds) : ∃ a xs, v = .ref a ∧ H a = some (.lst xs) ∧ DenL K H r t xs ds := by
  cases dv with
  | lst h1 n m z => cases h; exact ⟨_, _, rfl, h1, z⟩
  | @ref a n hn =>
    obtain ⟨c, hc, ok⟩ := so.cell hn
    have h' : (match S[n]? with | some (.lst ds) => some ds | _ => none) = some ds := h
    rw [hc] at h'
    cases c with
    | lst es =>
      have e := Option.some.inj h'
      subst e
      obtain ⟨xs, h1, h2⟩ := ok
      exact ⟨a, xs, rfl, h1, h2⟩
    | _ => cases h'
  | _ => cases h
theorem list_ok (so : SOk K mg H r t S) (dv : Den K H r t v d) (h : listOf S d = some ds) : ∃ a xs, v = .ref a ∧ SqL K H a xs ∧ DenL K H r t xs ds := by
  cases dv with
  | fz h1 z => cases h; exact ⟨_, _, rfl, h1.sq, z⟩
  | lst h1 n m z =>
    obtain ⟨a, xs, e, h2, h3⟩ := lst_ok so (.lst h1 n m z) h
    exact ⟨a, xs, e, .inl (.inl h2), h3⟩
  | ref hn =>
    obtain ⟨a, xs, e, h2, h3⟩ := lst_ok so (.ref hn) h
    exact ⟨a, xs, e, .inl (.inl h2), h3⟩
  | _ => cases h
theorem tup_ok (dv : Den K H r t v d) (h : tupOf d = some ds) : ∃ a xs, v = .ref a ∧ SqT K H a xs ∧ DenL K H r t xs ds := by
  cases dv with
  | tup h1 z => cases h; exact ⟨_, _, rfl, h1, z⟩
  | _ => cases h
/-- a new list, a new tuple -/
theorem newL {Q : VK} {p : Addr} {xs : List V} (so : SOk K mg H r t S) (hp : H p = none) (z : DenL K H r t xs ds) (q : ∀ w H', Ext r H r H' → SOk K mg H' r t S → Den K H' r t w (.lst ds) → Q w H') : Q (.ref p) (upd H p (.lst xs)) :=
  q _ _ (Ext.new hp) (so.new hp) (.lst upd_same (notinNew so hp).1 (notinNew so hp).2 (DenL.ext (Ext.new hp) _ _ z))
theorem newT {Q : VK} {p : Addr} {xs : List V} (so : SOk K mg H r t S) (hp : H p = none) (z : DenL K H r t xs ds) (q : ∀ w H', Ext r H r H' → SOk K mg H' r t S → Den K H' r t w (.tup ds) → Q w H') : Q (.ref p) (upd H p (.tup xs)) :=
  q _ _ (Ext.new hp) (so.new hp) (.tup (.inl (.inl upd_same)) (DenL.ext (Ext.new hp) _ _ z))
def oAddS : Sto → D → D → Option D := fun _ x y => match x, y with
  | .str a, .str b => if a.length + b.length ≤ sizeLine then some (.str (a ++ b)) else none
  | _, _ => none
theorem od_addS : OpD X (binaryOp .Add) oAddS := by
  refine ⟨_, op_add_str, fun r t S H x y v u d Q so dx dy e q => ?_⟩
  unfold oAddS at e
  split at e
  · cases dx
    cases dy
    split at e
    · cases e
      exact ⟨_, _, rfl, rfl, by assumption, q _ _ (Ext.refl _ _) so (.str _)⟩
    · cases e
  · cases e
def oAddT : Sto → D → D → Option D := fun _ x y => match tupOf x, tupOf y with
  | some a, some b => if a.length + b.length ≤ sizeLine then some (.tup (a ++ b)) else none
  | _, _ => none
theorem od_addT : OpD X (binaryOp .Add) oAddT := by
  refine ⟨_, op_catA, fun r t S H x y v u d Q so dx dy e q => ?_⟩
  unfold oAddT at e
  split at e
  · rename_i a b ea eb
    obtain ⟨p, xs, rfl, h1, z1⟩ := tup_ok dx ea
    obtain ⟨p2, ys, rfl, h2, z2⟩ := tup_ok dy eb
    split at e
    · rename_i hl
      cases e
      refine ⟨p, p2, xs, ys, rfl, rfl, h1, h2, by rw [z1.length, z2.length]; exact hl, fun e0 => ?_, fun _ e0 => ?_, fun _ _ n hn => newT so hn (z1.append z2) q⟩
      · subst e0
        cases z1
        exact q _ _ (Ext.refl _ _) so (.tup h2 z2)
      · subst e0
        cases z2
        refine q _ _ (Ext.refl _ _) so ?_
        rw [List.append_nil]
        exact .tup h1 z1
    · cases e
  · cases e
def oAddL : Sto → D → D → Option D := fun S x y => match lstOf S x, lstOf S y with
  | some a, some b => if a.length + b.length ≤ sizeLine then some (.lst (a ++ b)) else none
  | _, _ => none
theorem od_addL : OpD X (binaryOp .Add) oAddL := by
  refine ⟨_, op_cat, fun r t S H x y v u d Q so dx dy e q => ?_⟩
  unfold oAddL at e
  split at e
  · rename_i a b ea eb
    obtain ⟨p, xs, rfl, h1, z1⟩ := lst_ok so dx ea
    obtain ⟨p2, ys, rfl, h2, z2⟩ := lst_ok so dy eb
    split at e
    · rename_i hl
      cases e
      exact ⟨p, p2, xs, ys, rfl, rfl, h1, h2, by rw [z1.length, z2.length]; exact hl, fun n hn => newL so hn (z1.append z2) q⟩
    · cases e
  · cases e
def oAdd : Sto → D → D → Option D := orO oAddI (orO oAddL (orO oAddT oAddS))
theorem od_add : OpD X (binaryOp .Add) oAdd := od_addI.or (od_addL.or (od_addT.or od_addS))
def oRepL : Sto → D → D → Option D := fun S x y => match lstOf S x, y with
  | some a, .int k => if -(2 ^ 63) ≤ k ∧ k < 2 ^ 63 ∧ a.length * k.toNat ≤ sizeLine then some (.lst (List.replicate k.toNat a).flatten) else none
  | _, _ => none
theorem od_repL : OpD X (binaryOp .Mult) oRepL := by
  refine ⟨_, op_rep, fun r t S H x y v u d Q so dx dy e q => ?_⟩
  unfold oRepL at e
  split at e
  · rename_i a k ea
    obtain ⟨p, xs, rfl, h1, z1⟩ := lst_ok so dx ea
    cases dy
    split at e
    · rename_i hl
      cases e
      refine ⟨p, k, xs, rfl, rfl, h1, hl.1, hl.2.1, by rw [z1.length]; exact hl.2.2, fun n hn => newL so hn (z1.rep _) q⟩
    · cases e
  · cases e
def oRepT : Sto → D → D → Option D := fun _ x y => match tupOf x, y with
  | some a, .int k => if a ≠ [] ∧ 2 ≤ k ∧ k ≤ 1000 ∧ a.length ≤ 1000 then some (.tup (List.replicate k.toNat a).flatten) else none
  | _, _ => none
theorem od_repT : OpD X (binaryOp .Mult) oRepT := by
  refine ⟨_, op_repT, fun r t S H x y v u d Q so dx dy e q => ?_⟩
  unfold oRepT at e
  split at e
  · rename_i a k ea
    obtain ⟨p, xs, rfl, h1, z1⟩ := tup_ok dx ea
    cases dy
    split at e
    · rename_i hl
      cases e
      refine ⟨p, k, xs, rfl, rfl, h1, fun e0 => ?_, hl.2.1, hl.2.2.1, by rw [z1.length]; exact hl.2.2.2, fun n hn => newT so hn (z1.rep _) q⟩
      subst e0
      cases z1
      exact hl.1 rfl
    · cases e
  · cases e
def oMul : Sto → D → D → Option D := orO oMulI (orO oRepL oRepT)
theorem od_mul : OpD X (binaryOp .Mult) oMul := od_mulI.or (od_repL.or od_repT)

/-! ### == -/
def oEqS (neg : Bool) : Sto → D → D → Option D := fun _ x y => match x, y with
  | .int i, .int j => some (.bl (neg ^^ decide (i = j)))
  | .str i, .str j => some (.bl (neg ^^ decide (i = j)))
  | .bl i, .bl j => some (.bl (neg ^^ decide (i = j)))
  | .non, .non => some (.bl (neg ^^ true))
  | .non, .int _ => some (.bl (neg ^^ false))
  | .int _, .non => some (.bl (neg ^^ false))
  | .str _, .int _ => some (.bl (neg ^^ false))
  | .int _, .str _ => some (.bl (neg ^^ false))
  | _, _ => none
mutual
def toPy : D → Option PyData
  | .non => some .none
  | .bl b => some (.bool b)
  | .int i => some (.int i)
  | .str x => some (.str x)
  | .tup ds => match toPyL ds with
    | some ps => some (.tuple ps)
    | none => none
  | .lst ds => match toPyL ds with
    | some ps => some (.list ps)
    | none => none
  | .fz ds => match toPyL ds with
    | some ps => some (.list ps)
    | none => none
  | .ref _ => none
  | .ty _ => none
def toPyL : List D → Option (List PyData)
  | [] => some []
  | d :: ds => match toPy d, toPyL ds with
    | some p, some ps => some (p :: ps)
    | _, _ => none
end
/-- a list's contents in the place of its cell -/
def topD (S : Sto) (d : D) : D := match lstOf S d with
  | some ds => .lst ds
  | none => d
mutual
theorem toPy_ok : ∀ (d : D) (v : V) (p : PyData), Den K H r t v d → toPy d = some p → Dp K H v p
  | .non, _, _, h, e => by cases h; cases e; exact .non
  | .bl b, _, _, h, e => by cases h; cases e; exact .bl b
  | .int i, _, _, h, e => by cases h; cases e; exact .int i
  | .str x, _, _, h, e => by cases h; cases e; exact .str x
  | .tup ds, _, _, h, e => by
    unfold toPy at e
    cases h with
    | tup h1 z =>
      split at e
      · rename_i ps eps
        cases e
        exact .tup h1 (toPyL_ok ds _ ps z eps)
      · cases e
  | .lst ds, _, _, h, e => by
    unfold toPy at e
    cases h with
    | lst h1 n m z =>
      split at e
      · rename_i ps eps
        cases e
        exact .lst (.inl (.inl h1)) (toPyL_ok ds _ ps z eps)
      · cases e
  | .fz ds, _, _, h, e => by
    unfold toPy at e
    cases h with
    | fz h1 z =>
      split at e
      · rename_i ps eps
        cases e
        exact .lst h1.sq (toPyL_ok ds _ ps z eps)
      · cases e
  | .ref _, _, _, _, e => by cases e
  | .ty _, _, _, _, e => by cases e
theorem toPyL_ok : ∀ (ds : List D) (vs : List V) (ps : List PyData), DenL K H r t vs ds → toPyL ds = some ps → DpAll K H vs ps
  | [], _, _, h, e => by cases h; cases e; exact .nil
  | d :: ds, _, _, h, e => by
    unfold toPyL at e
    cases h with
    | cons h1 h2 =>
      split at e
      · rename_i p ps e1 e2
        cases e
        exact .cons (toPy_ok d _ p h1 e1) (toPyL_ok ds _ ps h2 e2)
      · cases e
end
theorem topPy_ok {p : PyData} (so : SOk K mg H r t S) (dv : Den K H r t v d) (h : toPy (topD S d) = some p) : Dp K H v p := by
  unfold topD at h
  split at h
  · rename_i ds e
    obtain ⟨a, xs, rfl, h1, z⟩ := lst_ok so dv e
    unfold toPy at h
    split at h
    · rename_i ps eps
      cases h
      exact .lst (.inl (.inl h1)) (toPyL_ok ds _ ps z eps)
    · cases h
  · exact toPy_ok d v p dv h
def oEqD (neg : Bool) : Sto → D → D → Option D := fun S x y => match toPy (topD S x), toPy (topD S y) with
  | some p, some q => if (SeqAt.shaped p && SeqAt.shaped q) = true then some (.bl (neg ^^ PyData.eqv p q)) else none
  | _, _ => none
theorem eqS_ok {x y : D} {v u : V} {neg : Bool} (dx : Den K H r t v x) (dy : Den K H r t u y) (h : oEqS neg S x y = some d) : scal v u = true ∧ d = .bl (neg ^^ decide (v = u)) := by
  unfold oEqS at h
  split at h
  · cases dx; cases dy; cases h; exact ⟨rfl, by simp [V.int.injEq]⟩
  · cases dx; cases dy; cases h; exact ⟨rfl, by simp [V.str.injEq]⟩
  · cases dx; cases dy; cases h; exact ⟨rfl, by simp [V.bl.injEq]⟩
  · cases dx; cases dy; cases h; exact ⟨rfl, by simp⟩
  · cases dx; cases dy; cases h; exact ⟨rfl, by simp⟩
  · cases dx; cases dy; cases h; exact ⟨rfl, by simp⟩
  · cases dx; cases dy; cases h; exact ⟨rfl, by simp⟩
  · cases dx; cases dy; cases h; exact ⟨rfl, by simp⟩
  · cases h
theorem od_eqS : OpD X (compareOp .Eq) (oEqS false) := by
  refine ⟨_, op_eq, fun r t S H x y v u d Q so dx dy e q => ?_⟩
  obtain ⟨h1, h2⟩ := eqS_ok dx dy e
  subst h2
  exact ⟨h1, q _ _ (Ext.refl _ _) so (by rw [Bool.false_xor]; exact .bl _)⟩
theorem od_neS : OpD X (compareOp .NotEq) (oEqS true) := by
  refine ⟨_, op_ne, fun r t S H x y v u d Q so dx dy e q => ?_⟩
  obtain ⟨h1, h2⟩ := eqS_ok dx dy e
  subst h2
  exact ⟨h1, q _ _ (Ext.refl _ _) so (by rw [Bool.true_xor]; exact .bl _)⟩
theorem od_eqD (hu : X.A.units + 64 < cLine) : OpD X (compareOp .Eq) (oEqD false) := by
  refine ⟨_, op_eqD hu, fun r t S H x y v u d Q so dx dy e q => ?_⟩
  unfold oEqD at e
  split at e
  · rename_i p p2 e1 e2
    split at e
    · rename_i hs
      cases e
      rw [Bool.and_eq_true] at hs
      exact ⟨p, p2, topPy_ok so dx e1, topPy_ok so dy e2, hs.1, hs.2, q _ _ (Ext.refl _ _) so (by rw [Bool.false_xor]; exact .bl _)⟩
    · cases e
  · cases e
theorem od_neD (hu : X.A.units + 64 < cLine) : OpD X (compareOp .NotEq) (oEqD true) := by
  refine ⟨_, op_neD hu, fun r t S H x y v u d Q so dx dy e q => ?_⟩
  unfold oEqD at e
  split at e
  · rename_i p p2 e1 e2
    split at e
    · rename_i hs
      cases e
      rw [Bool.and_eq_true] at hs
      exact ⟨p, p2, topPy_ok so dx e1, topPy_ok so dy e2, hs.1, hs.2, q _ _ (Ext.refl _ _) so (by rw [Bool.true_xor]; exact .bl _)⟩
    · cases e
  · cases e
def oEq : Sto → D → D → Option D := orO (oEqS false) (oEqD false)
def oNe : Sto → D → D → Option D := orO (oEqS true) (oEqD true)
theorem od_eq (hu : X.A.units + 64 < cLine) : OpD X (compareOp .Eq) oEq := od_eqS.or (od_eqD hu)
theorem od_ne (hu : X.A.units + 64 < cLine) : OpD X (compareOp .NotEq) oNe := od_neS.or (od_neD hu)

/-! ### is -/
def isNonD : D → Bool
  | .non => true
  | _ => false
def oIsN (neg : Bool) : Sto → D → D → Option D := fun _ x y => match y with
  | .non => some (.bl (neg ^^ isNonD x))
  | _ => none
def oIsB (neg : Bool) : Sto → D → D → Option D := fun _ x y => match x, y with
  | .bl a, .bl b => some (.bl (neg ^^ decide (a = b)))
  | _, _ => none
theorem isNon_ok (dv : Den K H r t v d) : isNonD d = decide (v = .non) := by
  cases dv <;> simp [isNonD]
theorem od_isN : OpD X (compareOp .Is) (oIsN false) := by
  refine ⟨_, op_isN, fun r t S H x y v u d Q so dx dy e q => ?_⟩
  unfold oIsN at e
  split at e
  · cases dy
    cases e
    exact ⟨rfl, q _ _ (Ext.refl _ _) so (by rw [Bool.false_xor, isNon_ok dx]; exact .bl _)⟩
  · cases e
theorem od_notN : OpD X (compareOp .IsNot) (oIsN true) := by
  refine ⟨_, op_notN, fun r t S H x y v u d Q so dx dy e q => ?_⟩
  unfold oIsN at e
  split at e
  · cases dy
    cases e
    exact ⟨rfl, q _ _ (Ext.refl _ _) so (by rw [Bool.true_xor, isNon_ok dx]; exact .bl _)⟩
  · cases e
theorem od_isB : OpD X (compareOp .Is) (oIsB false) := by
  refine ⟨_, op_isBl, fun r t S H x y v u d Q so dx dy e q => ?_⟩
  unfold oIsB at e
  split at e
  · cases dx
    cases dy
    cases e
    exact ⟨_, _, rfl, rfl, q _ _ (Ext.refl _ _) so (by rw [Bool.false_xor]; exact .bl _)⟩
  · cases e
theorem od_notB : OpD X (compareOp .IsNot) (oIsB true) := by
  refine ⟨_, op_notBl, fun r t S H x y v u d Q so dx dy e q => ?_⟩
  unfold oIsB at e
  split at e
  · cases dx
    cases dy
    cases e
    exact ⟨_, _, rfl, rfl, q _ _ (Ext.refl _ _) so (by rw [Bool.true_xor]; exact .bl _)⟩
  · cases e
def oIs : Sto → D → D → Option D := orO (oIsB false) (oIsN false)
def oIsNot : Sto → D → D → Option D := orO (oIsB true) (oIsN true)
theorem od_is : OpD X (compareOp .Is) oIs := od_isB.or od_isN
theorem od_isNot : OpD X (compareOp .IsNot) oIsNot := od_notB.or od_notN

/-! ### in -/
def oInD (neg : Bool) : Sto → D → D → Option D := fun S x y => match toPy x, toPy (topD S y) with
  | some p, some (.list qs) => if (SeqAt.shaped p && SeqAt.shaped (.list qs)) = true then some (.bl (neg ^^ qs.any fun z => PyData.eqv z p)) else none
  | _, _ => none
theorem od_inD (hu : X.A.units + 65 < cLine) : OpD X (compareOp .In) (oInD false) := by
  refine ⟨_, op_inD hu, fun r t S H x y v u d Q so dx dy e q => ?_⟩
  unfold oInD at e
  split at e
  · rename_i p qs e1 e2
    split at e
    · rename_i hs
      cases e
      rw [Bool.and_eq_true] at hs
      exact ⟨p, qs, toPy_ok _ _ _ dx e1, topPy_ok so dy e2, hs.1, hs.2, q _ _ (Ext.refl _ _) so (by rw [Bool.false_xor]; exact .bl _)⟩
    · cases e
  · cases e
theorem od_notInD (hu : X.A.units + 65 < cLine) : OpD X (compareOp .NotIn) (oInD true) := by
  refine ⟨_, op_notInD hu, fun r t S H x y v u d Q so dx dy e q => ?_⟩
  unfold oInD at e
  split at e
  · rename_i p qs e1 e2
    split at e
    · rename_i hs
      cases e
      rw [Bool.and_eq_true] at hs
      exact ⟨p, qs, toPy_ok _ _ _ dx e1, topPy_ok so dy e2, hs.1, hs.2, q _ _ (Ext.refl _ _) so (by rw [Bool.true_xor]; exact .bl _)⟩
    · cases e
  · cases e

/-! ### - -/
structure UnD (X : Cx) (f : Value → Sem Value) (o : D → Option D) : Prop where
  ex : ∃ rr : V → Hp → VK → Prop, UnR X f rr ∧ ∀ r t S H x v d (Q : VK), SOk X.K X.mg H r t S → Den X.K H r t v x → o x = some d → (∀ w H', Ext r H r H' → SOk X.K X.mg H' r t S → Den X.K H' r t w d → Q w H') → rr v H Q
def oNeg : D → Option D
  | .int i => some (.int (-i))
  | _ => none
theorem ud_neg : UnD X (unaryOp .USub) oNeg := by
  refine ⟨_, un_neg, fun r t S H x v d Q so dx e q => ?_⟩
  cases dx with
  | int i => cases e; exact ⟨i, rfl, q _ _ (Ext.refl _ _) so (.int _)⟩
  | _ => cases e
variable {W : WX} {e a b : Expr} {es : List Expr} {f fa fb : DE} {pos : Pos} {σ : St}
def dUn (o : D → Option D) (fa : DE) : DE := fun env S => (fa env S).bind fun x S1 => lift (o x) S1
theorem de_un {op : UnaryOp} {o : D → Option D} (ho : UnD X (unaryOp op) o) (ha : PE X a (tE X W fa)) : PE X (.UnaryOp op a pos) (tE X W (dUn o fa)) := by
  obtain ⟨rr, h, k⟩ := ho
  refine PE.imp (pe_un h ha) fun σ H Q q => ?_
  exact tE_one q fun r t S env x v H' rel dx g => by
    obtain ⟨d, e, g⟩ := g.lift
    exact k r t S H' x v d Q rel.so dx e fun w H2 ex so dw => g H2 r ex so w dw

/-! ### x[i], x[i:j] -/
structure IxD (X : Cx) (o : Sto → D → D → Option D) : Prop where
  ex : ∃ rr : R2, IxR X rr ∧ ∀ r t S H x y v u d (Q : VK), SOk X.K X.mg H r t S → Den X.K H r t v x → Den X.K H r t u y → o S x y = some d →
    (∀ w H', Ext r H r H' → SOk X.K X.mg H' r t S → Den X.K H' r t w d → Q w H') → rr v u H Q
theorem IxD.or {o o' : Sto → D → D → Option D} (h : IxD X o) (h' : IxD X o') : IxD X (orO o o') := by
  obtain ⟨r1, h1, k1⟩ := h
  obtain ⟨r2, h2, k2⟩ := h'
  refine ⟨_, h1.or h2, fun r t S H x y v u d Q so dx dy e q => ?_⟩
  unfold orO at e
  split at e
  · rename_i d' e'
    cases e
    exact .inl (k1 r t S H x y v u _ Q so dx dy e' q)
  · exact .inr (k2 r t S H x y v u d Q so dx dy e q)
theorem de_ix {o : Sto → D → D → Option D} (ho : IxD X o) (ha : PE X a (tE X W fa)) (hb : PE X b (tE X W fb)) (hs : PlainIx b) : PE X (.Subscript a b pos) (tE X W (dBin o fa fb)) := by
  obtain ⟨rr, h, k⟩ := ho
  exact PE.imp (pe_ix h ha hb hs) fun σ H Q q => tE_op (f := binaryOp .Add) k q
theorem atI_den {xs : List V} {i : Int} (z : DenL K H r t xs ds) (h : atI ds i = some d) : ∃ v, atI xs i = some v ∧ Den K H r t v d := by
  unfold atI at h ⊢
  cases e : ixN ds.length i with
  | none => rw [e] at h; cases h
  | some j =>
    rw [e] at h
    rw [z.length, e]
    exact z.get h
def oIxL : Sto → D → D → Option D := fun S x y => match listOf S x, y with
  | some ds, .int i => atI ds i
  | _, _ => none
theorem xd_list : IxD X oIxL := by
  refine ⟨_, ix_list, fun r t S H x y v u d Q so dx dy e q => ?_⟩
  unfold oIxL at e
  split at e
  · rename_i ds i e1
    obtain ⟨a, xs, rfl, h1, z⟩ := list_ok so dx e1
    cases dy
    obtain ⟨w, h2, dw⟩ := atI_den z e
    exact ⟨a, xs, i, w, rfl, rfl, h1, h2, q _ _ (Ext.refl _ _) so dw⟩
  · cases e
def oIxT : Sto → D → D → Option D := fun _ x y => match tupOf x, y with
  | some ds, .int i => atI ds i
  | _, _ => none
theorem xd_tup : IxD X oIxT := by
  refine ⟨_, ix_tup, fun r t S H x y v u d Q so dx dy e q => ?_⟩
  unfold oIxT at e
  split at e
  · rename_i ds i e1
    obtain ⟨a, xs, rfl, h1, z⟩ := tup_ok dx e1
    cases dy
    obtain ⟨w, h2, dw⟩ := atI_den z e
    exact ⟨a, xs, i, w, rfl, rfl, h1, h2, q _ _ (Ext.refl _ _) so dw⟩
  · cases e
def oIxS : Sto → D → D → Option D := fun _ x y => match x, y with
  | .str z, .int i => if z.length ≤ sizeLine then (atI z.cps.toList i).map fun c => .str ⟨#[c]⟩ else none
  | _, _ => none
theorem xd_str : IxD X oIxS := by
  refine ⟨_, ix_str, fun r t S H x y v u d Q so dx dy e q => ?_⟩
  unfold oIxS at e
  split at e
  · cases dx
    cases dy
    split at e
    · rename_i z i hl
      obtain ⟨c, h1, h2⟩ := Option.map_eq_some_iff.mp e
      subst h2
      exact ⟨z, i, c, rfl, rfl, hl, h1, q _ _ (Ext.refl _ _) so (.str _)⟩
    · cases e
  · cases e
def oIx : Sto → D → D → Option D := orO oIxL (orO oIxT oIxS)
theorem xd_ix : IxD X oIx := xd_list.or (xd_tup.or xd_str)
/-- a slice's ends -/
abbrev DO := Ev → Sto → Out (Option Int)
def oNo : DO := fun _ S => .ok none S
def asI : D → Option Int
  | .int i => some i
  | _ => none
def oSo (f : DE) : DO := fun env S => (f env S).bind fun d S1 => (lift (asI d) S1).bind fun i S2 => .ok (some i) S2
def tO (X : Cx) (W : WX) (f : DO) : TO := fun σ H Q => ∃ r t S env, Rel X.K X.mg H r t S env σ ∧ Good X.K X.mg t (EW W σ) r H (f env S) fun i _ _ H' => Q i H'
theorem do_no : PO X none (tO X W oNo) := ⟨fun pins s σ H Q I h => (po_none (X := X)).run pins s σ H Q I (by
  obtain ⟨r, t, S, env, rel, g⟩ := h
  exact g.here rel.so)⟩
theorem do_so (he : PE X e (tE X W f)) : PO X (some e) (tO X W (oSo f)) := ⟨fun pins s σ H Q I h => (po_some he).run pins s σ H Q I (by
  obtain ⟨r, t, S, env, rel, g⟩ := h
  refine ⟨r, t, S, env, rel, g.bind.mono fun x S1 r1 H1 ex so g1 v dv => ?_⟩
  obtain ⟨i, ei, g2⟩ := g1.bind.lift
  have g3 := (g2.here so).here so
  cases dv with
  | int j => cases ei; exact ⟨i, rfl, g3⟩
  | _ => cases ei)⟩
structure SlD (X : Cx) (o : Sto → D → Option Int → Option Int → Option D) : Prop where
  ex : ∃ rr : V → Option Int → Option Int → Hp → VK → Prop, SlR X rr ∧ ∀ r t S H x v l u d (Q : VK), SOk X.K X.mg H r t S → Den X.K H r t v x → o S x l u = some d →
    (∀ w H', Ext r H r H' → SOk X.K X.mg H' r t S → Den X.K H' r t w d → Q w H') → rr v l u H Q
def orS (o o' : Sto → D → Option Int → Option Int → Option D) : Sto → D → Option Int → Option Int → Option D := fun S x l u => match o S x l u with
  | some d => some d
  | none => o' S x l u
theorem SlD.or {o o' : Sto → D → Option Int → Option Int → Option D} (h : SlD X o) (h' : SlD X o') : SlD X (orS o o') := by
  obtain ⟨r1, h1, k1⟩ := h
  obtain ⟨r2, h2, k2⟩ := h'
  refine ⟨_, h1.or h2, fun r t S H x v l u d Q so dx e q => ?_⟩
  unfold orS at e
  split at e
  · rename_i d' e'
    cases e
    exact .inl (k1 r t S H x v l u _ Q so dx e' q)
  · exact .inr (k2 r t S H x v l u d Q so dx e q)
def cutD (xs : List D) (lo hi : Option Int) : List D := (xs.drop (HT.sIx xs.length 0 lo)).take (HT.sIx xs.length xs.length hi - HT.sIx xs.length 0 lo)
theorem cut_den {xs : List V} (z : DenL K H r t xs ds) (lo hi : Option Int) : DenL K H r t (cutV xs lo hi) (cutD ds lo hi) := by
  unfold cutV cutD
  rw [z.length]
  exact (z.drop _).take _
def oSlL : Sto → D → Option Int → Option Int → Option D := fun S x l u => match listOf S x with
  | some ds => some (.lst (cutD ds l u))
  | none => none
theorem sd_list : SlD X oSlL := by
  refine ⟨_, sl_list, fun r t S H x v l u d Q so dx e q => ?_⟩
  unfold oSlL at e
  split at e
  · rename_i ds e1
    cases e
    obtain ⟨a, xs, rfl, h1, z⟩ := list_ok so dx e1
    exact ⟨a, xs, rfl, h1, fun p hp => newL so hp (cut_den z l u) q⟩
  · cases e
def oSlT : Sto → D → Option Int → Option Int → Option D := fun _ x l u => match tupOf x with
  | some ds => some (.tup (cutD ds l u))
  | none => none
theorem cut_all {xs : List D} {lo hi : Option Int} (h : HT.sIx xs.length 0 lo = 0 ∧ HT.sIx xs.length xs.length hi = xs.length) : cutD xs lo hi = xs := by
  unfold cutD
  rw [h.1, h.2, List.drop_zero, Nat.sub_zero, List.take_length]
theorem sd_tup : SlD X oSlT := by
  refine ⟨_, sl_tupA, fun r t S H x v l u d Q so dx e q => ?_⟩
  unfold oSlT at e
  split at e
  · rename_i ds e1
    cases e
    obtain ⟨a, xs, rfl, h1, z⟩ := tup_ok dx e1
    refine ⟨a, xs, rfl, h1, fun hw => ?_, fun _ p hp => newT so hp (cut_den z l u) q⟩
    rw [z.length] at hw
    refine q _ _ (Ext.refl _ _) so ?_
    rw [cut_all hw]
    exact .tup h1 z
  · cases e
def oSl : Sto → D → Option Int → Option Int → Option D := orS oSlL oSlT
theorem sd_sl : SlD X oSl := sd_list.or sd_tup
def dSl (o : Sto → D → Option Int → Option Int → Option D) (fe : DE) (fl fu : DO) : DE := fun env S => (fe env S).bind fun x S1 => (fl env S1).bind fun l S2 => (fu env S2).bind fun u S3 => lift (o S3 x l u) S3
theorem de_slice {o : Sto → D → Option Int → Option Int → Option D} {lo hi : Option Expr} {fl fu : DO} {p2 : Pos} (ho : SlD X o) (he : PE X e (tE X W f)) (hl : PO X lo (tO X W fl)) (hu : PO X hi (tO X W fu)) : PE X (.Subscript e (.Slice lo hi none p2) pos) (tE X W (dSl o f fl fu)) := by
  obtain ⟨rr, h, k⟩ := ho
  refine PE.imp (pe_slice h he hl hu) fun σ H Q q => ?_
  refine tE_one q fun r t S env x v H' rel dx g => ?_
  refine ⟨r, t, S, env, rel, g.bind.mono fun l S1 r1 H1 ex so g1 => ?_⟩
  have rel1 := rel.ext ex so
  have dx1 := Den.ext ex _ _ dx
  refine ⟨r1, t, S1, env, rel1, g1.bind.mono fun u S2 r2 H2 ex2 so2 g2 => ?_⟩
  obtain ⟨d, e, g3⟩ := g2.lift
  exact k r2 t S2 H2 x v l u d Q so2 (Den.ext ex2 _ _ dx1) e fun w H3 ex3 so3 dw => g3 H3 r2 ex3 so3 w dw

/-! ### built-in functions -/
def tyN (S : Sto) : D → Option String
  | .non => some "NoneType"
  | .bl _ => some "bool"
  | .int _ => some "int"
  | .str _ => some "str"
  | .tup _ => some "tuple"
  | .lst _ => some "list"
  | .fz _ => some "list"
  | .ref n => match S[n]? with
    | some (.lst _) => some "list"
    | some (.dK _) => some "dict"
    | some (.dT _) => some "dict"
    | _ => none
  | .ty _ => none
theorem ty_ok {T : String} (so : SOk K mg H r t S) (dv : Den K H r t v d) (h : tyN S d = some T) : TyX K H v (.type T) := by
  cases dv with
  | non => cases h; exact .base .non
  | bl b => cases h; exact .base (.bl b)
  | int b => cases h; exact .base (.int b)
  | str b => cases h; exact .base (.str b)
  | tup h1 z =>
    cases h
    rcases h1 with (h1 | ⟨o, h1⟩) | ⟨o, its, n, hk, hc, _⟩
    · exact .base (.tup h1)
    · exact .fTuple h1
    · exact .kTuple hk hc
  | lst h1 _ _ _ => cases h; exact .base (.lst h1)
  | fz h1 _ =>
    cases h
    rcases h1 with ⟨o, h1⟩ | ⟨o, its, n, hk, hc, _⟩
    · exact .base (.frz h1)
    · exact .kList hk hc
  | @ref a n hn =>
    obtain ⟨c, hc, ok⟩ := so.cell hn
    unfold tyN at h
    dsimp only at h
    rw [hc] at h
    cases c with
    | lst es => cases h; obtain ⟨xs, h1, _⟩ := ok; exact .base (.lst h1)
    | dK es => cases h; obtain ⟨xs, h1, _⟩ := ok; exact .base (.dK h1)
    | dT es => cases h; obtain ⟨xs, h1, _⟩ := ok; exact .base (.dT h1)
    | ins c fs => cases h
  | ty n => cases h
def oIsInst : Sto → List D → Option D := fun S ds => match ds with
  | [d, .ty T] => match tyN S d with
    | some a => (kitB a T).map .bl
    | none => none
  | _ => none
theorem cd_isinst : CallD X (.builtin "isinstance") oIsInst := by
  refine ⟨_, call_isi, fun r t S H ds vs d Q so dv e q => ?_⟩
  unfold oIsInst at e
  split at e
  · rename_i x T
    split at e
    · rename_i a ea
      obtain ⟨b, h1, h2⟩ := Option.map_eq_some_iff.mp e
      subst h2
      cases dv with
      | cons d1 d2 =>
        cases d2 with
        | cons d2 d3 =>
          cases d3
          cases d2
          exact ⟨_, _, _, _, b, rfl, .ty T, ty_ok so d1 ea, kit_ty h1, q _ _ (Ext.refl _ _) so (.bl b)⟩
    · cases e
  · cases e
def oLen : Sto → List D → Option D := fun S ds => match ds with
  | [.str x] => if x.length ≤ sizeLine then some (.int x.length) else none
  | [.tup xs] => some (.int xs.length)
  | [d] => (listOf S d).map fun xs => .int xs.length
  | _ => none
theorem cd_len : CallD X (.builtin "len") oLen := by
  refine ⟨_, call_len, fun r t S H ds vs d Q so dv e q => ?_⟩
  unfold oLen at e
  split at e
  · split at e
    · rename_i x hl
      cases e
      cases dv with
      | cons d1 d2 =>
        cases d2
        cases d1
        exact ⟨.str x, x.length, rfl, ⟨hl, rfl⟩, q _ _ (Ext.refl _ _) so (.int _)⟩
    · cases e
  · rename_i xs
    cases e
    cases dv with
    | cons d1 d2 =>
      cases d2
      cases d1 with
      | tup h1 z => exact ⟨_, _, rfl, .inr ⟨_, h1, z.length.symm⟩, q _ _ (Ext.refl _ _) so (.int _)⟩
  · obtain ⟨xs, h1, h2⟩ := Option.map_eq_some_iff.mp e
    subst h2
    cases dv with
    | cons d1 d2 =>
      cases d2
      obtain ⟨a, ys, rfl, h3, z⟩ := list_ok so d1 h1
      exact ⟨_, _, rfl, .inl ⟨_, h3, z.length.symm⟩, q _ _ (Ext.refl _ _) so (.int _)⟩
  · cases e
def blsOf : List D → Option (List Bool)
  | [] => some []
  | .bl b :: r => (blsOf r).map (b :: ·)
  | _ :: _ => none
theorem bls_eq : ∀ {ds : List D} {bs : List Bool}, blsOf ds = some bs → ds = bs.map D.bl
  | [], _, h => by cases h; rfl
  | d :: r, bs, h => by
    cases d with
    | bl b =>
      obtain ⟨l, h1, h2⟩ := Option.map_eq_some_iff.mp (show (blsOf r).map (b :: ·) = some bs from h)
      subst h2
      rw [List.map_cons, bls_eq h1]
    | _ => cases h
def intsOf : List D → Option (List Int)
  | [] => some []
  | .int b :: r => (intsOf r).map (b :: ·)
  | _ :: _ => none
theorem ints_eq : ∀ {ds : List D} {bs : List Int}, intsOf ds = some bs → ds = bs.map D.int
  | [], _, h => by cases h; rfl
  | d :: r, bs, h => by
    cases d with
    | int b =>
      obtain ⟨l, h1, h2⟩ := Option.map_eq_some_iff.mp (show (intsOf r).map (b :: ·) = some bs from h)
      subst h2
      rw [List.map_cons, ints_eq h1]
    | _ => cases h
def oAll : Sto → List D → Option D := fun S ds => match ds with
  | [d] => ((listOf S d).bind blsOf).map fun bs => .bl (bs.all id)
  | _ => none
def oAny : Sto → List D → Option D := fun S ds => match ds with
  | [d] => ((listOf S d).bind blsOf).map fun bs => .bl (bs.any id)
  | _ => none
def oSumL : Sto → List D → Option D := fun S ds => match ds with
  | [d] => ((listOf S d).bind intsOf).map fun bs => .int bs.sum
  | _ => none
theorem cd_all (hc : X.calm = true) : CallD X (.builtin "all") oAll := by
  refine ⟨_, cr_all hc, fun r t S H ds vs d Q so dv e q => ?_⟩
  unfold oAll at e
  split at e
  · obtain ⟨bs, h1, h2⟩ := Option.map_eq_some_iff.mp e
    obtain ⟨es, h3, h4⟩ := Option.bind_eq_some_iff.mp h1
    subst h2
    cases dv with
    | cons d1 d2 =>
      cases d2
      obtain ⟨a, xs, rfl, h5, z⟩ := list_ok so d1 h3
      rw [bls_eq h4] at z
      rw [z.bls] at h5
      exact ⟨a, bs, rfl, h5, q _ _ (Ext.refl _ _) so (.bl _)⟩
  · cases e
theorem cd_any (hc : X.calm = true) : CallD X (.builtin "any") oAny := by
  refine ⟨_, cr_any hc, fun r t S H ds vs d Q so dv e q => ?_⟩
  unfold oAny at e
  split at e
  · obtain ⟨bs, h1, h2⟩ := Option.map_eq_some_iff.mp e
    obtain ⟨es, h3, h4⟩ := Option.bind_eq_some_iff.mp h1
    subst h2
    cases dv with
    | cons d1 d2 =>
      cases d2
      obtain ⟨a, xs, rfl, h5, z⟩ := list_ok so d1 h3
      rw [bls_eq h4] at z
      rw [z.bls] at h5
      exact ⟨a, bs, rfl, h5, q _ _ (Ext.refl _ _) so (.bl _)⟩
  · cases e
theorem cd_sumL (hc : X.calm = true) : CallD X (.builtin "sum") oSumL := by
  refine ⟨_, cr_sum hc, fun r t S H ds vs d Q so dv e q => ?_⟩
  unfold oSumL at e
  split at e
  · obtain ⟨bs, h1, h2⟩ := Option.map_eq_some_iff.mp e
    obtain ⟨es, h3, h4⟩ := Option.bind_eq_some_iff.mp h1
    subst h2
    cases dv with
    | cons d1 d2 =>
      cases d2
      obtain ⟨a, xs, rfl, h5, z⟩ := list_ok so d1 h3
      rw [ints_eq h4] at z
      rw [z.ints] at h5
      exact ⟨a, bs, rfl, h5, q _ _ (Ext.refl _ _) so (.int _)⟩
  · cases e
def oTuple : Sto → List D → Option D := fun S ds => match ds with
  | [.tup xs] => some (.tup xs)
  | [d] => (listOf S d).map .tup
  | _ => none
theorem cd_tuple : CallD X (.type "tuple") oTuple := by
  refine ⟨_, call_tuple_of, fun r t S H ds vs d Q so dv e q => ?_⟩
  unfold oTuple at e
  split at e
  · cases e
    cases dv with
    | cons d1 d2 =>
      cases d2
      cases d1 with
      | tup h1 z => exact ⟨_, _, rfl, .inr ⟨h1, q _ _ (Ext.refl _ _) so (.tup h1 z)⟩⟩
  · obtain ⟨xs, h1, h2⟩ := Option.map_eq_some_iff.mp e
    subst h2
    cases dv with
    | cons d1 d2 =>
      cases d2
      obtain ⟨a, ys, rfl, h3, z⟩ := list_ok so d1 h1
      exact ⟨_, _, rfl, .inl ⟨h3, fun l hl => newT so hl z q⟩⟩
  · cases e
def oListC : Sto → List D → Option D := fun S ds => match ds with
  | [.tup xs] => some (.lst xs)
  | [d] => (listOf S d).map .lst
  | _ => none
theorem cd_list : CallD X (.type "list") oListC := by
  refine ⟨_, call_list_of, fun r t S H ds vs d Q so dv e q => ?_⟩
  unfold oListC at e
  split at e
  · cases e
    cases dv with
    | cons d1 d2 =>
      cases d2
      cases d1 with
      | tup h1 z => exact ⟨_, _, rfl, .inr h1, fun l hl => newL so hl z q⟩
  · obtain ⟨xs, h1, h2⟩ := Option.map_eq_some_iff.mp e
    subst h2
    cases dv with
    | cons d1 d2 =>
      cases d2
      obtain ⟨a, ys, rfl, h3, z⟩ := list_ok so d1 h1
      exact ⟨_, _, rfl, .inl h3, fun l hl => newL so hl z q⟩
  · cases e
def oIntC : Sto → List D → Option D := fun _ ds => match ds with
  | [.int i] => some (.int i)
  | [.bl k] => some (.int (if k then 1 else 0))
  | _ => none
theorem cd_int : CallD X (.type "int") oIntC := by
  refine ⟨_, call_int1, fun r t S H ds vs d Q so dv e q => ?_⟩
  unfold oIntC at e
  split at e
  · cases e
    cases dv with
    | cons d1 d2 => cases d2; cases d1; exact .inl ⟨_, rfl, q _ _ (Ext.refl _ _) so (.int _)⟩
  · cases e
    cases dv with
    | cons d1 d2 => cases d2; cases d1; exact .inr ⟨_, rfl, q _ _ (Ext.refl _ _) so (.int _)⟩
  · cases e
def oStrC : Sto → List D → Option D := fun _ ds => match ds with
  | [.int i] => if i.natAbs < 2 ^ 1919 then some (.str (toString i)) else none
  | _ => none
theorem cd_str : CallD X (.type "str") oStrC := by
  refine ⟨_, call_str_int, fun r t S H ds vs d Q so dv e q => ?_⟩
  unfold oStrC at e
  split at e
  · split at e
    · rename_i i hi
      cases e
      cases dv with
      | cons d1 d2 =>
        cases d2
        cases d1
        refine ⟨_, rfl, ?_, q _ _ (Ext.refl _ _) so (.str _)⟩
        exact Nat.lt_of_lt_of_le (PySem.Flt.log2_lt_of (by decide) hi) (by decide)
    · cases e
  · cases e
end
end DL
end L2

set_option Elab.async false
set_option linter.all false
set_option maxRecDepth 100000
namespace L2
namespace DL
open PySem PySem.Spec PyProof.Rows

/-! ### what is walked -/
abbrev DI := Ev → Sto → Out (List D)
/-- J walks the items ds as long as the tokens tok are what they are -/
def Walk (X : Cx) (J : It) (tok : List (V × D)) (ds : List D) : Prop := ∀ (i : Nat) (r t : List Addr) (H : Hp) (S : Sto), SOk X.K X.mg H r t S → (∀ p ∈ tok, Den X.K H r t p.1 p.2) →
  (i = ds.length → J.stop i H) ∧ ∀ d, ds[i]? = some d → J.go i H ∧ ∀ x H', J.yld i H x H' → Ext r H r H' ∧ SOk X.K X.mg H' r t S ∧ Den X.K H' r t x d
def tI (X : Cx) (W : WX) (g : DI) : TI := fun σ H R => ∃ r t S env, Rel X.K X.mg H r t S env σ ∧ Good X.K X.mg t (EW W σ) r H (g env S) fun ds _ r' H' => ∀ J tok, Walk X J tok ds → (∀ p ∈ tok, Den X.K H' r' t p.1 p.2) → R J H'
theorem PI.imp {X : Cx} {tg e : Expr} {w w' : TI} (h : PI X tg e w) (k : ∀ σ H R, w' σ H R → w σ H R) : PI X tg e w' := ⟨fun pins s σ H R I q => h.run pins s σ H R I (k σ H R q)⟩
theorem PI.or {X : Cx} {tg e : Expr} {w w' : TI} (h : PI X tg e w) (h' : PI X tg e w') : PI X tg e (fun σ H R => w σ H R ∨ w' σ H R) :=
  ⟨fun pins s σ H R I q => q.elim (h.run pins s σ H R I) (h'.run pins s σ H R I)⟩
section
variable {X : Cx} {W : WX} {tg e : Expr} {f : DE}
def itemsOf : D → Option (List D)
  | .tup ds => some ds
  | .lst ds => some ds
  | .fz ds => some ds
  | _ => none
def iSeq (f : DE) : DI := fun env S => (f env S).bind fun d S1 => lift (itemsOf d) S1
theorem walk_tup {a : Addr} {ds : List D} : Walk X (Itt X.K a) [(.ref a, .tup ds)] ds := by
  intro i r t H S so tok
  have h := tok _ List.mem_cons_self
  cases h with
  | @tup a xs ds h1 z =>
    refine ⟨fun e => ⟨xs, h1, by rw [z.length, e]; exact Nat.le_refl _⟩, fun d hd => ?_⟩
    obtain ⟨v, hv, dv⟩ := z.get hd
    refine ⟨⟨xs, v, h1, hv⟩, fun x H' y => ?_⟩
    obtain ⟨e, y⟩ := y
    subst e
    have hx := y xs h1
    rw [hv] at hx
    have ex := Option.some.inj hx
    subst ex
    exact ⟨Ext.refl _ _, so, dv⟩
theorem walk_lst {a : Addr} {d0 : D} {ds : List D} (hd0 : d0 = .lst ds ∨ d0 = .fz ds) : Walk X (Itl X.K a) [(.ref a, d0)] ds := by
  intro i r t H S so tok
  have h := tok _ List.mem_cons_self
  obtain ⟨xs, h1, z⟩ : ∃ xs, SqL X.K H a xs ∧ DenL X.K H r t xs ds := by
    rcases hd0 with e | e
    · subst e
      cases h with
      | lst h1 n m z => exact ⟨_, .inl (.inl h1), z⟩
    · subst e
      cases h with
      | fz h1 z => exact ⟨_, h1.sq, z⟩
  refine ⟨fun e => ⟨xs, h1, by rw [z.length, e]; exact Nat.le_refl _⟩, fun d hd => ?_⟩
  obtain ⟨v, hv, dv⟩ := z.get hd
  refine ⟨⟨xs, v, h1, hv⟩, fun x H' y => ?_⟩
  obtain ⟨e, y⟩ := y
  subst e
  have hx := y xs h1
  rw [hv] at hx
  have ex := Option.some.inj hx
  subst ex
  exact ⟨Ext.refl _ _, so, dv⟩
theorem di_seq (he : PE X e (tE X W f)) : PI X tg e (tI X W (iSeq f)) := by
  refine PI.imp (PI.or (pi_tup he) (pi_list he)) fun σ H R q => ?_
  obtain ⟨r, t, S, env, rel, g⟩ := q
  unfold iSeq at g
  cases h : f env S with
  | bad => rw [h] at g; exact (show False from g).elim
  | exc c S1 =>
    rw [h, Out.bind_exc] at g
    refine .inl ⟨r, t, S, env, rel, ?_⟩
    rw [h]
    exact g
  | ok d S1 =>
    rw [h, Out.bind_ok] at g
    obtain ⟨ds, e1, g1⟩ := g.lift
    cases d with
    | tup es =>
      cases e1
      refine .inl ⟨r, t, S, env, rel, ?_⟩
      rw [h]
      intro H1 r1 ex so v dv
      cases dv with
      | tup h1 z => exact ⟨_, rfl, ⟨_, h1⟩, g1 H1 r1 ex so _ _ walk_tup (by intro p hp; have ep := List.mem_singleton.mp hp; subst ep; exact .tup h1 z)⟩
    | lst es =>
      cases e1
      refine .inr ⟨r, t, S, env, rel, ?_⟩
      rw [h]
      intro H1 r1 ex so v dv
      cases dv with
      | lst h1 n m z => exact ⟨_, rfl, ⟨_, .inl (.inl h1)⟩, g1 H1 r1 ex so _ _ (walk_lst (.inl rfl)) (by intro p hp; have ep := List.mem_singleton.mp hp; subst ep; exact .lst h1 n m z)⟩
    | fz es =>
      cases e1
      refine .inr ⟨r, t, S, env, rel, ?_⟩
      rw [h]
      intro H1 r1 ex so v dv
      cases dv with
      | fz h1 z => exact ⟨_, rfl, ⟨_, h1.sq⟩, g1 H1 r1 ex so _ _ (walk_lst (.inr rfl)) (by intro p hp; have ep := List.mem_singleton.mp hp; subst ep; exact .fz h1 z)⟩
    | _ => cases e1
def rngL (lo : Int) (n : Nat) : List D := (List.range n).map fun k : Nat => D.int (lo + (k : Int))
theorem rng_get {lo : Int} {n i : Nat} {d : D} (h : (rngL lo n)[i]? = some d) : i < n ∧ d = .int (lo + (i : Int)) := by
  unfold rngL at h
  rw [List.getElem?_map] at h
  obtain ⟨j, h1, h2⟩ := Option.map_eq_some_iff.mp h
  obtain ⟨h3, h4⟩ := List.getElem?_eq_some_iff.mp h1
  rw [List.length_range] at h3
  rw [List.getElem_range] at h4
  subst h4
  exact ⟨h3, h2.symm⟩
theorem rng_len (lo : Int) (n : Nat) : (rngL lo n).length = n := by unfold rngL; rw [List.length_map, List.length_range]
theorem walk_rng {lo : Int} {n : Nat} : Walk X (Itr lo n) [] (rngL lo n) := by
  intro i r t H S so _
  refine ⟨fun e => by rw [e, rng_len]; exact Nat.le_refl _, fun d hd => ?_⟩
  obtain ⟨h1, h2⟩ := rng_get hd
  subst h2
  refine ⟨h1, fun x H' y => ?_⟩
  obtain ⟨e, y⟩ := y
  subst e y
  exact ⟨Ext.refl _ _, so, .int _⟩
def in62 (j : Int) : Bool := decide (-(2 ^ 62) ≤ j) && decide (j < 2 ^ 62)
def rng1 : List D → Option (List D)
  | [.int j] => if in62 j = true then some (rngL 0 j.toNat) else none
  | _ => none
def rng2 : List D → Option (List D)
  | [.int i, .int j] => if (in62 i && in62 j) = true then some (rngL i (j - i).toNat) else none
  | _ => none
theorem in62_ok {j : Int} (h : in62 j = true) : -(2 ^ 62) ≤ j ∧ j < 2 ^ 62 := by
  unfold in62 at h
  rw [Bool.and_eq_true, decide_eq_true_eq, decide_eq_true_eq] at h
  exact h
def iRange1 (fs : DA) : DI := fun env S => (fs env S).bind fun ds S1 => lift (rng1 ds) S1
def iRange2 (fs : DA) : DI := fun env S => (fs env S).bind fun ds S1 => lift (rng2 ds) S1
theorem di_range1 {a : Expr} {fs : DA} {p pos : Pos} (hg : Gl X "range") (hm : X.mg "range" = none) (ha : PA X [a] (tA X W fs)) (hs : starEach [a] X.env = [(false, eval a X.env)] := by rfl) : PI X tg (.Call (.Name "range" p) [a] [] pos) (tI X W (iRange1 fs)) := by
  refine PI.imp (pi_range1 hg hm ha hs) fun σ H R q => ?_
  obtain ⟨r, t, S, env, rel, g⟩ := q
  refine ⟨r, t, S, env, rel, g.bind.mono fun ds S1 r1 H1 ex so g1 vs dvs => ?_⟩
  obtain ⟨es, e1, g2⟩ := g1.lift
  unfold rng1 at e1
  split at e1
  · split at e1
    · rename_i j hj
      cases e1
      obtain ⟨h1, h2⟩ := in62_ok hj
      cases dvs with
      | cons d1 d2 =>
        cases d2
        cases d1
        exact ⟨j, rfl, h1, h2, g2.here so _ [] walk_rng (fun p hp => absurd hp (by simp))⟩
    · cases e1
  · cases e1
theorem di_range2 {a b : Expr} {fs : DA} {p pos : Pos} (hg : Gl X "range") (hm : X.mg "range" = none) (ha : PA X [a, b] (tA X W fs)) (hs : starEach [a, b] X.env = [(false, eval a X.env), (false, eval b X.env)] := by rfl) (hs2 : starEach [b] X.env = [(false, eval b X.env)] := by rfl) :
    PI X tg (.Call (.Name "range" p) [a, b] [] pos) (tI X W (iRange2 fs)) := by
  refine PI.imp (pi_range2 hg hm ha hs hs2) fun σ H R q => ?_
  obtain ⟨r, t, S, env, rel, g⟩ := q
  refine ⟨r, t, S, env, rel, g.bind.mono fun ds S1 r1 H1 ex so g1 vs dvs => ?_⟩
  obtain ⟨es, e1, g2⟩ := g1.lift
  unfold rng2 at e1
  split at e1
  · split at e1
    · rename_i i j hj
      cases e1
      rw [Bool.and_eq_true] at hj
      obtain ⟨h1, h2⟩ := in62_ok hj.1
      obtain ⟨h3, h4⟩ := in62_ok hj.2
      cases dvs with
      | cons d1 d2 =>
        cases d2 with
        | cons d2 d3 =>
          cases d3
          cases d1
          cases d2
          exact ⟨i, j, rfl, ⟨h1, h2, h3, h4⟩, g2.here so _ [] walk_rng (fun p hp => absurd hp (by simp))⟩
    · cases e1
  · cases e1
end

/-! ### targets -/
abbrev DG := Ev → D → Option Ev
/-- over every context with this written part -/
def Off (own : List Nat) (σ σ' : St) : Prop := σ'.length = σ.length ∧ ∀ j, j ∉ own → σ'[j]? = σ[j]?
def tG (K : PySem.W.Frag) (mg : Str → Option Value) (own : List Nat) (g : DG) : TG := fun v σ H Q => ∃ r t S env d, Rel K mg H r t S env σ ∧ Den K H r t v d ∧ ∃ env', g env d = some env' ∧ ∀ σ', Rel K mg H r t S env' σ' → Off own σ σ' → Q σ' H
theorem PG.imp {X : Cx} {e : Expr} {u u' : TG} (h : PG X e u) (k : ∀ v σ H Q, u' v σ H Q → u v σ H Q) : PG X e u' := ⟨fun pins s σ H v w Q I rv q => h.run pins s σ H v w Q I rv (k v σ H Q q)⟩
section
variable {X : Cx} {pos : Pos}
def gN (i : Nat) : DG := fun env d => some (env.set i (some d))
theorem dg_name (i : Nat) {x : Str} (hN : X.N.Nodup) (hi : X.N[i]? = some x := by rfl) (hx : Loc X.env.scope x := by first | exact .inl rfl | exact .inr rfl) (hf : X.fn x = true ∨ X.env.scope.names.lookup x = some .local := by first | exact .inl rfl | exact .inr rfl) : PG X (.Name x pos) (tG X.K X.mg [i] (gN i)) := by
  refine PG.imp (pg_name hN hi hx hf) fun v σ H Q q => ?_
  obtain ⟨r, t, S, env, d, rel, dv, env', e, q⟩ := q
  cases e
  exact q _ (rel.set i dv) ⟨List.length_set, fun j hj => List.getElem?_set_ne (fun e => hj (by rw [e]; exact List.mem_singleton.mpr rfl))⟩
/-- several targets -/
abbrev DGs := Ev → List D → Option Ev
def tGs (K : PySem.W.Frag) (mg : Str → Option Value) (own : List Nat) (g : DGs) : TGs := fun vs σ H Q => ∃ r t S env ds, Rel K mg H r t S env σ ∧ DenL K H r t vs ds ∧ ∃ env', g env ds = some env' ∧ ∀ σ', Rel K mg H r t S env' σ' → Off own σ σ' → Q σ' H
theorem Off.refl (σ : St) : Off [] σ σ := ⟨rfl, fun _ _ => rfl⟩
theorem Off.trans {a b : List Nat} {σ σ1 σ2 : St} (h : Off a σ σ1) (k : Off b σ1 σ2) : Off (a ++ b) σ σ2 :=
  ⟨k.1.trans h.1, fun j hj => (k.2 j fun z => hj (List.mem_append_right _ z)).trans (h.2 j fun z => hj (List.mem_append_left _ z))⟩
theorem PGs.imp {X : Cx} {e : List Expr} {u u' : TGs} (h : PGs X e u) (k : ∀ v σ H Q, u' v σ H Q → u v σ H Q) : PGs X e u' := ⟨fun pins s σ H v w Q I rv q => h.run pins s σ H v w Q I rv (k v σ H Q q)⟩
def gsNil : DGs := fun env ds => match ds with
  | [] => some env
  | _ => none
def gsCons (g : DG) (gs : DGs) : DGs := fun env ds => match ds with
  | d :: r => (g env d).bind fun env' => gs env' r
  | [] => none
theorem dgs_nil : PGs X [] (tGs X.K X.mg [] gsNil) := by
  refine PGs.imp pgs_nil fun v σ H Q q => ?_
  obtain ⟨r, t, S, env, ds, rel, dv, env', e, q⟩ := q
  unfold gsNil at e
  split at e
  · cases e
    cases dv
    exact ⟨rfl, q _ rel (Off.refl _)⟩
  · cases e
theorem dgs_cons {a : Expr} {es : List Expr} {g : DG} {gs : DGs} {o1 o2 : List Nat} (h1 : PG X a (tG X.K X.mg o1 g)) (h2 : PGs X es (tGs X.K X.mg o2 gs)) (hs : (assignEach (a :: es) X.env).map (·.2) = assign a X.env :: (assignEach es X.env).map (·.2) := by rfl) : PGs X (a :: es) (tGs X.K X.mg (o1 ++ o2) (gsCons g gs)) := by
  refine PGs.imp (pgs_cons h1 h2 hs) fun v σ H Q q => ?_
  obtain ⟨r, t, S, env, ds, rel, dv, env', e, q⟩ := q
  unfold gsCons at e
  split at e
  · rename_i d rd
    obtain ⟨env1, e1, e2⟩ := Option.bind_eq_some_iff.mp e
    cases dv with
    | cons d1 d2 => exact ⟨_, _, rfl, r, t, S, env, d, rel, d1, env1, e1, fun σ1 rel1 off1 => ⟨r, t, S, env1, rd, rel1, d2, env', e2, fun σ2 rel2 off2 => q σ2 rel2 (off1.trans off2)⟩⟩
  · cases e
def gTupD (n : Nat) (gs : DGs) : DG := fun env d => match d with
  | .tup ds => if ds.length = n then gs env ds else none
  | _ => none
theorem dg_tup {es : List Expr} {k : Nat} {gs : DGs} {n : Nat} {own : List Nat} (hc : X.calm = true) (h : PGs X es (tGs X.K X.mg own gs)) (hn : (assignEach es X.env).length = n := by rfl) (hst : (assignEach es X.env).findIdx? (·.1) = none := by rfl) : PG X (.Tuple es k pos) (tG X.K X.mg own (gTupD n gs)) := by
  refine PG.imp (pg_tup hc h hn hst) fun v σ H Q q => ?_
  obtain ⟨r, t, S, env, d, rel, dv, env', e, q⟩ := q
  unfold gTupD at e
  split at e
  · rename_i ds
    split at e
    · rename_i hl
      cases dv with
      | tup h1 z => exact ⟨_, _, rfl, h1, z.length.trans hl, r, t, S, env, ds, rel, z, env', e, q⟩
    · cases e
  · cases e
end

/-! ### list comprehensions -/
abbrev W0 : WX := fun _ _ _ _ => False
def noexc {A : Type} : Out A → Out A
  | .exc _ _ => .bad
  | m => m
def bYes : DB := fun _ S => .ok true S
def wipeE (env : Ev) : List Nat → Ev
  | [] => env
  | v :: vs => (wipeE env vs).set v none
def compGo (g : DG) (env : Ev) (tt : DB) (te : DE) : List D → List D → Sto → Out (List D)
  | [], acc, S => .ok acc S
  | d :: ds, acc, S => match g env d with
    | none => .bad
    | some env' => (noexc (tt env' S)).bind fun k S1 => if k = true then (noexc (te env' S1)).bind fun y S2 => if acc.length < sizeLine then compGo g env tt te ds (acc ++ [y]) S2 else .bad
      else compGo g env tt te ds acc S1
def dComp (it : DI) (g : DG) (vs : List Nat) (tt : DB) (te : DE) : DE := fun env S => (it env S).bind fun ds S1 => (compGo g (wipeE env vs) tt te ds [] S1).bind fun acc S2 => .ok (.lst acc) S2
/-- the base of a loop: what a part comes to, whatever the state it is asked at -/
theorem Good.split {K : PySem.W.Frag} {mg : Str → Option Value} {t t' : List Addr} {E E' : Addr → Hp → Prop} {r r' : List Addr} {H H' : Hp} {A B : Type} {m : Out A} {k : A → Sto → Out B} {R : B → Sto → List Addr → Hp → Prop}
    (g : Good K mg t E r H ((noexc m).bind k) R) : Good K mg t' E' r' H' m fun a S _ _ => Good K mg t E r H (k a S) R := by
  cases m with
  | ok a S => exact fun _ _ _ _ => g
  | exc c S => exact (show False from g).elim
  | bad => exact (show False from g).elim
section
variable {K : PySem.W.Frag} {mg : Str → Option Value} {H : Hp} {r t : List Addr} {S : Sto} {env : Ev} {σ : St}
theorem Rel.wipes (R : Rel K mg H r t S env σ) : ∀ vs : List Nat, Rel K mg H r t S (wipeE env vs) (L2.wipe σ vs)
  | [] => R
  | v :: vs => (Rel.wipes R vs).wipe v
theorem SOk.hide {p : Addr} {o : HO} (so : SOk K mg H r t S) (hp : H p = none) : SOk K mg (upd H p o) r (p :: t) S := by
  have nn := notinNew so hp
  refine ⟨so.len, so.nd, fun n a c h1 h2 => ?_, fun a ha => ?_⟩
  · have ok := so.ok n a c h1 h2
    obtain ⟨u, e, _⟩ := ok.there
    have na : a ≠ p := ne_of_none e hp
    cases c with
    | lst ds => obtain ⟨xs, h3, h4⟩ := ok; exact ⟨xs, by rw [upd_ne na]; exact h3, DenL.hide hp _ _ h4⟩
    | dK ds => obtain ⟨xs, h3, h4⟩ := ok; exact ⟨xs, by rw [upd_ne na]; exact h3, ⟨h4.1, DenL.hide hp _ _ h4.2⟩⟩
    | dT ds => obtain ⟨xs, h3, h4⟩ := ok; exact ⟨xs, by rw [upd_ne na]; exact h3, ⟨h4.1, DenL.hide hp _ _ h4.2⟩⟩
    | ins c fs => obtain ⟨C, dx, ps, h3, h4, h5, h6⟩ := ok; exact ⟨C, dx, ps, by rw [upd_ne na]; exact h3, by rw [upd_ne (ne_of_none h4 hp)]; exact h4, h5, ⟨h6.1, DenL.hide hp _ _ h6.2⟩⟩
  · rcases List.mem_cons.mp ha with e | e
    · subst e
      exact ⟨by rw [upd_same]; exact (fun z => nomatch z), nn.1⟩
    · exact ⟨(Ext.new (r := r) hp).there a (so.hid a e).1, (so.hid a e).2⟩
theorem Rel.hide {p : Addr} {o : HO} (R : Rel K mg H r t S env σ) (hp : H p = none) : Rel K mg (upd H p o) r (p :: t) S env σ :=
  ⟨R.so.hide hp, R.len, fun i d h => let ⟨v, h1, h2⟩ := R.en i d h; ⟨v, h1, Den.hide hp d v h2⟩⟩
theorem SOk.over {p : Addr} {xs : List V} {o : HO} (so : SOk K mg H r t S) (hm : p ∈ t) (hp : H p = some (.lst xs)) : SOk K mg (upd H p o) r t S := by
  have hT : ∀ ys, H p ≠ some (.tup ys) := fun ys e => by rw [hp] at e; cases e
  have hF : ∀ ob u, H p ≠ some (.frz ob u) := fun ob u e => by rw [hp] at e; cases e
  have hO : ∀ a, H p ≠ some (.own a) := fun a e => by rw [hp] at e; cases e
  refine ⟨so.len, so.nd, fun n a c h1 h2 => ?_, fun a ha => ⟨?_, (so.hid a ha).2⟩⟩
  · have ok := so.ok n a c h1 h2
    have na : a ≠ p := fun e => by subst e; exact (so.hid _ hm).2 (List.mem_of_getElem? h1)
    cases c with
    | lst ds => obtain ⟨xs, h3, h4⟩ := ok; exact ⟨xs, by rw [upd_ne na]; exact h3, DenL.over hm hT hF _ _ h4⟩
    | dK ds => obtain ⟨xs, h3, h4⟩ := ok; exact ⟨xs, by rw [upd_ne na]; exact h3, ⟨h4.1, DenL.over hm hT hF _ _ h4.2⟩⟩
    | dT ds => obtain ⟨xs, h3, h4⟩ := ok; exact ⟨xs, by rw [upd_ne na]; exact h3, ⟨h4.1, DenL.over hm hT hF _ _ h4.2⟩⟩
    | ins c fs => obtain ⟨C, dx, ps, h3, h4, h5, h6⟩ := ok; exact ⟨C, dx, ps, by rw [upd_ne na]; exact h3, by rw [upd_ne (fun e => by subst e; exact hO _ h4)]; exact h4, h5, ⟨h6.1, DenL.over hm hT hF _ _ h6.2⟩⟩
  · by_cases e : a = p
    · subst e; rw [upd_same]; exact fun z => nomatch z
    · rw [upd_ne e]; exact (so.hid a ha).1
theorem Rel.over {p : Addr} {xs : List V} {o : HO} (R : Rel K mg H r t S env σ) (hm : p ∈ t) (hp : H p = some (.lst xs)) : Rel K mg (upd H p o) r t S env σ := by
  have hT : ∀ ys, H p ≠ some (.tup ys) := fun ys e => by rw [hp] at e; cases e
  have hF : ∀ ob u, H p ≠ some (.frz ob u) := fun ob u e => by rw [hp] at e; cases e
  exact ⟨R.so.over hm hp, R.len, fun i d h => let ⟨v, h1, h2⟩ := R.en i d h; ⟨v, h1, Den.over hm hT hF d v h2⟩⟩
theorem SOk.less {u : List Addr} (so : SOk K mg H r t S) (hs : ∀ a ∈ u, a ∈ t) : SOk K mg H r u S := by
  refine ⟨so.len, so.nd, fun n a c h1 h2 => ?_, fun a ha => so.hid a (hs a ha)⟩
  have ok := so.ok n a c h1 h2
  cases c with
  | lst ds => obtain ⟨xs, h3, h4⟩ := ok; exact ⟨xs, h3, DenL.less hs _ _ h4⟩
  | dK ds => obtain ⟨xs, h3, h4⟩ := ok; exact ⟨xs, h3, ⟨h4.1, DenL.less hs _ _ h4.2⟩⟩
  | dT ds => obtain ⟨xs, h3, h4⟩ := ok; exact ⟨xs, h3, ⟨h4.1, DenL.less hs _ _ h4.2⟩⟩
  | ins c fs => obtain ⟨C, dx, ps, h3, h4, h5, h6⟩ := ok; exact ⟨C, dx, ps, h3, h4, h5, ⟨h6.1, DenL.less hs _ _ h6.2⟩⟩
/-- a hidden new list is written: from the loop's start on that is nothing -/
theorem Ext.overNew {r1 : List Addr} {H1 : Hp} {p : Addr} {o : HO} (e : Ext r1 H1 r H) (hp : H1 p = none) : Ext r1 H1 r (upd H p o) := by
  refine ⟨e.pre, fun b u h n => ?_, fun b u h => ?_, fun b u w h => ?_, fun b u h => ?_, fun b h => ?_⟩
  · rw [upd_ne (ne_of_none h hp)]; exact e.keep b u h n
  · rw [upd_ne (ne_of_none h hp)]; exact e.tups b u h
  · rw [upd_ne (ne_of_none h hp)]; exact e.frzs b u w h
  · rw [upd_ne (ne_of_none h hp)]; exact e.owns b u h
  · by_cases z : b = p
    · subst z; rw [upd_same]; exact fun z => nomatch z
    · rw [upd_ne z]; exact e.there b h
end
theorem wipe_off {vs : List Nat} : ∀ {us : List Nat} {c : St} {j : Nat}, j ∉ us → (wipe c us)[j]? = c[j]?
  | [], _, _, _ => rfl
  | y :: us, c, j, hu => by
    show ((wipe c us).set y none)[j]? = c[j]?
    rw [List.getElem?_set_ne (fun e => hu (by rw [e]; exact List.mem_cons_self)), wipe_off (vs := vs) fun e => hu (List.mem_cons_of_mem _ e)]
theorem wipe_on : ∀ {us : List Nat} {c : St} {j : Nat}, j ∈ us → j < c.length → (wipe c us)[j]? = some none
  | [], _, _, hu, _ => by cases hu
  | y :: us, c, j, hu, hc => by
    show ((wipe c us).set y none)[j]? = some none
    by_cases hy : y = j
    · subst hy
      rw [List.getElem?_set_self (by rw [wipe_length]; exact hc)]
    · rw [List.getElem?_set_ne hy]
      exact wipe_on ((List.mem_cons.mp hu).resolve_left fun e => hy e.symm) hc
theorem wipe_eq {a b : St} {vs : List Nat} (hl : a.length = b.length) (h : ∀ j, j ∉ vs → a[j]? = b[j]?) : wipe a vs = wipe b vs := by
  refine List.ext_getElem? fun j => ?_
  by_cases hv : j ∈ vs
  · by_cases hc : j < a.length
    · rw [wipe_on hv hc, wipe_on hv (by rw [← hl]; exact hc)]
    · rw [List.getElem?_eq_none (by rw [wipe_length]; omega), List.getElem?_eq_none (by rw [wipe_length]; omega)]
  · rw [wipe_off (vs := []) hv, wipe_off (vs := []) hv]
    exact h j hv
theorem wipe_back {σ σ2 : St} {vs own : List Nat} (off : Off own (wipe σ vs) σ2) (ho : ∀ i ∈ own, i ∈ vs) : wipe σ2 vs = wipe σ vs := by
  refine wipe_eq (by rw [off.1, wipe_length]) fun j hj => ?_
  rw [off.2 j fun z => hj (ho j z), wipe_off (vs := []) hj]
end DL
end L2

set_option Elab.async false
set_option linter.all false
set_option maxRecDepth 100000
namespace L2
namespace DL
open PySem PySem.Spec PyProof.Rows

theorem Out.bind_assoc {A B C : Type} (m : Out A) (f : A → Sto → Out B) (g : B → Sto → Out C) : (m.bind f).bind g = m.bind fun a S => (f a S).bind g := by
  cases m <;> rfl
section
variable {X : Cx} {W : WX} {tg iter elt : Expr} {it : DI} {g : DG} {tt : DB} {te : DE} {scope : Scope} {own : List (Str × Nat)} {go : List Nat} {ifs : List Expr} {pos : Pos} {σ : St} {H : Hp} {Q : VK}
/-- between two turns of a comprehension whose new list stands at p -/
def CInv (X : Cx) (W : WX) (g : DG) (vs : List Nat) (tt : DB) (te : DE) (σ : St) (Q : VK) (env : Ev) (t r1 : List Addr) (H1 : Hp) (p : Addr) (tok : List (V × D)) (ds : List D) (H2 : Hp) : Prop :=
  ∃ r2 S2 acc accV, H2 p = some (.lst accV) ∧ DenL X.K H2 r2 (p :: t) accV acc ∧ Rel X.K X.mg H2 r2 (p :: t) S2 (wipeE env vs) (wipe σ vs) ∧ Ext r1 H1 r2 H2 ∧
      (∀ q ∈ tok, Den X.K H2 r2 (p :: t) q.1 q.2) ∧ Good X.K X.mg t (EW W σ) r1 H1 ((compGo g (wipeE env vs) tt te ds acc S2).bind fun acc S2 => .ok (.lst acc) S2) fun d _ r' H' => ∀ v, Den X.K H' r' t v d → Q v H'
theorem tLc_of {vs : List Nat} (hgo : ∀ i ∈ go, i ∈ vs) (q : tE X W (dComp it g vs tt te) σ H Q) : tLc (tI X W it) (tG X.K X.mg go g) (tB' X W0 tt) (tE X W0 te) vs σ H Q := by
  obtain ⟨r, t, S, env, rel, g0⟩ := q
  refine ⟨r, t, S, env, rel, g0.bind.mono fun ds S1 r1 H1 ex so g1 J tok walk htok p hp => ?_⟩
  have rel1 := rel.ext ex so
  have nn := notinNew so hp
  refine ⟨fun i m H2 => m = ds.length - i ∧ i ≤ ds.length ∧ CInv X W g vs tt te σ Q env t r1 H1 p tok (ds.drop i) H2,
    ⟨ds.length, rfl, Nat.zero_le _, r1, S1, [], [], upd_same, .nil, (rel1.hide hp).wipes vs, Ext.new hp, fun q hq => Den.hide hp _ _ (htok q hq), g1⟩, ?_⟩
  rintro i m H2 ⟨rfl, hi, r2, S2, acc, accV, hD2, dacc, rel2, ex2, htok2, g2⟩
  have wk := walk i r2 (p :: t) H2 S2 rel2.so htok2
  have nD : p ∉ r2 := (rel2.so.hid p List.mem_cons_self).2
  by_cases hlt : i < ds.length
  · obtain ⟨hgo1, hyl⟩ := wk.2 ds[i] (List.getElem?_eq_getElem hlt)
    rw [List.drop_eq_getElem_cons hlt] at g2
    unfold compGo at g2
    cases hE : g (wipeE env vs) ds[i] with
    | none => rw [hE] at g2; exact (show False from g2).elim
    | some env' =>
      rw [hE] at g2
      dsimp only at g2
      rw [Out.bind_assoc] at g2
      refine .inr ⟨hgo1, fun H3 => CInv X W g vs tt te σ Q env t r1 H1 p tok (ds.drop (i + 1)) H3, fun H' h => ⟨ds.length - (i + 1), by omega, rfl, hlt, h⟩, fun x H' y => ?_⟩
      obtain ⟨exy, soy, dx⟩ := hyl x H' y
      have rely := rel2.ext exy soy
      refine ⟨r2, p :: t, S2, wipeE env vs, ds[i], rely, dx, env', hE, fun σ2 relS off => ⟨wipe_back off hgo, ?_⟩⟩
      refine ⟨r2, p :: t, S2, env', relS, (Good.split g2).mono fun b S3 r3 H3 ex3 so3 g3 => ?_⟩
      have exA := exy.trans ex3
      have hD3 : H3 p = some (.lst accV) := exA.keep p _ hD2 nD
      have rel3 := rely.ext ex3 so3
      have nD3 : p ∉ r3 := (so3.hid p List.mem_cons_self).2
      cases b with
      | false => exact iteF ⟨r3, S3, acc, accV, hD3, DenL.ext exA _ _ dacc, rel3, ex2.trans exA, fun q hq => Den.ext exA _ _ (htok2 q hq), g3⟩
      | true =>
        refine iteT ?_
        have g3' := g3
        rw [if_pos rfl, Out.bind_assoc] at g3'
        refine ⟨r3, p :: t, S3, env', relS.ext ex3 so3, (Good.split g3').mono fun y S4 r4 H4 ex4 so4 g4 yv dyv => ?_⟩
        have hD4 : H4 p = some (.lst accV) := ex4.keep p _ hD3 nD3
        have hz : acc.length < sizeLine ∧ Good X.K X.mg t (EW W σ) r1 H1 ((compGo g (wipeE env vs) tt te (ds.drop (i + 1)) (acc ++ [y]) S4).bind fun acc S2 => .ok (.lst acc) S2) (fun d _ r' H' => ∀ v, Den X.K H' r' t v d → Q v H') := by
          by_cases hz : acc.length < sizeLine
          · rw [if_pos hz] at g4; exact ⟨hz, g4⟩
          · rw [if_neg hz] at g4; exact (show False from g4).elim
        have exB := exA.trans ex4
        have hT : ∀ ys, H4 p ≠ some (.tup ys) := fun ys e => by rw [hD4] at e; cases e
        have hF : ∀ ob u, H4 p ≠ some (.frz ob u) := fun ob u e => by rw [hD4] at e; cases e
        have mD : p ∈ p :: t := List.mem_cons_self
        exact ⟨accV, hD4, by rw [dacc.length]; exact hz.1, r4, S4, acc ++ [y], accV ++ [yv], upd_same, DenL.over mD hT hF _ _ ((DenL.ext exB _ _ dacc).append (.cons dyv .nil)), (rel3.ext ex4 so4).over mD hD4, (ex2.trans exB).overNew hp, fun q hq => Den.over mD hT hF _ _ (Den.ext exB _ _ (htok2 q hq)), hz.2⟩
  · have e : i = ds.length := by omega
    subst e
    rw [List.drop_length] at g2
    refine .inl ⟨wk.1 rfl, ?_⟩
    have sub : ∀ a ∈ t, a ∈ p :: t := fun a ha => List.mem_cons_of_mem _ ha
    exact g2 H2 r2 ex2 (rel2.so.less sub) _ (.lst hD2 nD nn.2 (DenL.less sub _ _ dacc))
theorem de_comp (hc : X.calm = true) (hN : X.N.Nodup) (hi : PI X tg iter (tI X W it)) (ok : BlkOk X.N X.env.scope scope own) (hgo : ∀ i ∈ go, i ∈ own.map (·.2))
    (hg : ∀ (s : Shared) (H : Hp) (C : Addr) (cl : List (Str × Addr)) (fp : List Addr), PG (X.blk s H scope (compEnvC scope cl C X.env) fp) tg (tG X.K X.mg go g)) (ht : ∀ (s : Shared) (H : Hp) (C : Addr) (cl : List (Str × Addr)) (fp : List Addr), PTs (X.blk s H scope (compEnvC scope cl C X.env) fp) ifs (tB' X W0 tt))
    (he : ∀ (s : Shared) (H : Hp) (C : Addr) (cl : List (Str × Addr)) (fp : List Addr), PE (X.blk s H scope (compEnvC scope cl C X.env) fp) elt (tE X W0 te)) (hs : ∀ x, foldedSetIterable iter X.env x = pure x := by intro _; rfl) :
    PE X (.ListComp elt [⟨tg, iter, ifs, 0⟩] scope pos) (tE X W (dComp it g (own.map (·.2)) tt te)) :=
  PE.imp (pe_lc hc hN hi ok hg ht he hs) fun _ _ _ q => tLc_of hgo q
theorem dts_nil : PTs X [] (tB' X W bYes) := ⟨fun pins s σ H Q I h => (pts_nil (X := X)).run pins s σ H Q I (by
  obtain ⟨r, t, S, env, rel, g⟩ := h
  exact g.here rel.so)⟩
end

/-! ### statements -/
inductive Fl where
  | nx | rt (d : D) | bk | ct
abbrev DS := Ev → Sto → Out (Fl × Ev)
abbrev WC (E : XK) : WX := fun c d _ H => E c d H
abbrev EC (E : XK) : Addr → Hp → Prop := fun C H => E (.ref C) none H
def fin (Dn : Ends) (K : PySem.W.Frag) (H : Hp) (r t : List Addr) (fl : Fl) (σ : St) : Prop := match fl with
  | .nx => Dn.nx σ H
  | .rt d => ∀ v, Den K H r t v d → Dn.rt v H
  | .bk => Dn.bk σ H
  | .ct => Dn.ct σ H
abbrev RS (X : Cx) (Dn : Ends) (t : List Addr) : (Fl × Ev) → Sto → List Addr → Hp → Prop := fun p S' r' H' => ∀ σ', Rel X.K X.mg H' r' t S' p.2 σ' → fin Dn X.K H' r' t p.1 σ'
def tS (X : Cx) (E : XK) (f : DS) : TS := fun Dn σ H => ∃ r t S env, Rel X.K X.mg H r t S env σ ∧ Good X.K X.mg t (EC E) r H (f env S) (RS X Dn t)
section
variable {X : Cx} {E : XK} {e : Expr} {st : Stmt} {rest : List Stmt} {f g : DS} {fe : DE} {pos : Pos}
theorem PS.imp {e : Stmt} {u u' : TS} (h : PS X e u) (k : ∀ D σ H, u' D σ H → u D σ H) : PS X e u' := ⟨fun pins s σ H D I q => h.run pins s σ H D I (k D σ H q)⟩
theorem PSs.imp {e : List Stmt} {u u' : TS} (h : PSs X e u) (k : ∀ D σ H, u' D σ H → u D σ H) : PSs X e u' := ⟨fun pins s σ H D I q => h.run pins s σ H D I (k D σ H q)⟩
def sNil : DS := fun env S => .ok (.nx, env) S
def sSeq (f g : DS) : DS := fun env S => (f env S).bind fun p S1 => match p.1 with
  | .nx => g p.2 S1
  | fl => .ok (fl, p.2) S1
theorem ds_nil : PSs X [] (tS X E sNil) := PSs.imp pss_nil fun D σ H q => by
  obtain ⟨r, t, S, env, rel, g⟩ := q
  exact g.here rel.so σ rel
theorem ds_one (h : PS X st (tS X E f)) : PSs X [st] (tS X E f) := pss_one h
theorem ds_cons (h1 : PS X st (tS X E f)) (h2 : PSs X rest (tS X E g)) : PSs X (st :: rest) (tS X E (sSeq f g)) := by
  refine PSs.imp (pss_cons h1 h2) fun D σ H q => ?_
  obtain ⟨r, t, S, env, rel, g0⟩ := q
  refine ⟨r, t, S, env, rel, g0.bind.mono fun p S1 r1 H1 ex so g1 σ1 rel1 => ?_⟩
  obtain ⟨fl, env1⟩ := p
  cases fl with
  | nx => exact ⟨r1, t, S1, env1, rel1, g1⟩
  | rt d => exact Good.here g1 so σ1 rel1
  | bk => exact Good.here g1 so σ1 rel1
  | ct => exact Good.here g1 so σ1 rel1
def sExpr (f : DE) : DS := fun env S => (f env S).bind fun _ S1 => .ok (.nx, env) S1
theorem ds_expr (he : PE X e (tE X (WC E) fe)) (hs : swapsWith e none pos.line X.env = pure false := by rfl) : PS X (.Expr e pos) (tS X E (sExpr fe)) := by
  refine PS.imp (ps_expr he hs) fun D σ H q => ?_
  obtain ⟨r, t, S, env, rel, g0⟩ := q
  exact ⟨r, t, S, env, rel, g0.bind.mono fun d S1 r1 H1 ex so g1 v dv => Good.here g1 so σ (rel.ext ex so)⟩
def sRet (f : DE) : DS := fun env S => (f env S).bind fun d S1 => .ok (.rt d, env) S1
theorem ds_ret (he : PE X e (tE X (WC E) fe)) : PS X (.Return (some e) pos) (tS X E (sRet fe)) := by
  refine PS.imp (ps_ret he) fun D σ H q => ?_
  obtain ⟨r, t, S, env, rel, g0⟩ := q
  exact ⟨r, t, S, env, rel, g0.bind.mono fun d S1 r1 H1 ex so g1 v dv => Good.here g1 so σ (rel.ext ex so) v dv⟩
def sFl (fl : Fl) : DS := fun env S => .ok (fl, env) S
theorem ds_retN : PS X (.Return none pos) (tS X E (sFl (.rt .non))) := PS.imp ps_retN fun D σ H q => by
  obtain ⟨r, t, S, env, rel, g⟩ := q
  exact g.here rel.so σ rel _ .non
theorem ds_break : PS X (.Break pos) (tS X E (sFl .bk)) := PS.imp ps_break fun D σ H q => by
  obtain ⟨r, t, S, env, rel, g⟩ := q
  exact g.here rel.so σ rel
theorem ds_continue : PS X (.Continue pos) (tS X E (sFl .ct)) := PS.imp ps_continue fun D σ H q => by
  obtain ⟨r, t, S, env, rel, g⟩ := q
  exact g.here rel.so σ rel
theorem ds_pass : PS X (.Pass pos) (tS X E (sFl .nx)) := PS.imp ps_pass fun D σ H q => by
  obtain ⟨r, t, S, env, rel, g⟩ := q
  exact g.here rel.so σ rel
def sIf (c : DB) (f g : DS) : DS := fun env S => (c env S).bind fun k S1 => if k = true then f env S1 else g env S1
theorem ds_if {c : Expr} {a b : List Stmt} {tc : DB} (hc : PT X c (tB' X (WC E) tc)) (ha : PSs X a (tS X E f)) (hb : PSs X b (tS X E g)) : PS X (.If c a b pos) (tS X E (sIf tc f g)) := by
  refine PS.imp (ps_if hc ha hb) fun D σ H q => ?_
  obtain ⟨r, t, S, env, rel, g0⟩ := q
  refine ⟨r, t, S, env, rel, g0.bind.mono fun k S1 r1 H1 ex so g1 => ?_⟩
  cases k with
  | true => exact iteT ⟨r1, t, S1, env, rel.ext ex so, g1⟩
  | false => exact iteF ⟨r1, t, S1, env, rel.ext ex so, g1⟩
def sSet (i : Nat) (f : DE) : DS := fun env S => (f env S).bind fun d S1 => .ok (.nx, env.set i (some d)) S1
theorem ds_set (i : Nat) {x : Str} {pos' : Pos} (hN : X.N.Nodup) (he : PE X e (tE X (WC E) fe)) (hi : X.N[i]? = some x := by rfl) (hx : Loc X.env.scope x := by first | exact .inl rfl | exact .inr rfl) (hs : swapsWith e (some (.Name x pos')) pos.line X.env = pure false := by rfl) (hf : X.fn x = true ∨ X.env.scope.names.lookup x = some .local := by first | exact .inl rfl | exact .inr rfl) :
    PS X (.Assign [.Name x pos'] e pos) (tS X E (sSet i fe)) := by
  refine PS.imp (ps_set hN hi hx he hs hf) fun D σ H q => ?_
  obtain ⟨r, t, S, env, rel, g0⟩ := q
  exact ⟨r, t, S, env, rel, g0.bind.mono fun d S1 r1 H1 ex so g1 v dv => Good.here g1 so _ ((rel.ext ex so).set i dv)⟩
def sAsg (f : DE) (g : DG) : DS := fun env S => (f env S).bind fun d S1 => (lift (g env d) S1).bind fun env' S2 => .ok (.nx, env') S2
theorem ds_asg {tg : Expr} {gg : DG} {own : List Nat} (he : PE X e (tE X (WC E) fe)) (hg : PG X tg (tG X.K X.mg own gg)) (hs : swapsWithSole [tg] e pos.line X.env = pure false := by rfl) (hw : swappedStores [tg] e X.env = pure none := by rfl)
    (h1 : (assignEach [tg] X.env).map (·.2) = [assign tg X.env] := by rfl) : PS X (.Assign [tg] e pos) (tS X E (sAsg fe gg)) := by
  refine PS.imp (ps_asg he hg hs hw h1) fun D σ H q => ?_
  obtain ⟨r, t, S, env, rel, g0⟩ := q
  refine ⟨r, t, S, env, rel, g0.bind.mono fun d S1 r1 H1 ex so g1 v dv => ?_⟩
  obtain ⟨env', e1, g2⟩ := g1.bind.lift
  exact ⟨r1, t, S1, env, d, rel.ext ex so, dv, env', e1, fun σ' rel' _ => Good.here (g2.here so) so σ' rel'⟩
theorem ds_setLc (i : Nat) {y : Str} {py : Pos} {elt tg iter : Expr} {ifs : List Expr} {scope : Scope} {own : List (Str × Nat)} {go : List Nat} {pos spos : Pos} {it : DI} {gg : DG} {tt : DB} {te : DE} (hc : X.calm = true) (hN : X.N.Nodup)
    (hsw : swapsWith (.ListComp elt [⟨tg, iter, ifs, 0⟩] scope pos) (some (.Name y py)) spos.line X.env = pure true) (hi : PI X tg iter (tI X (WC E) it)) (ok : BlkOk X.N X.env.scope scope own) (hgo : ∀ i ∈ go, i ∈ own.map (·.2))
    (hg : ∀ (s : Shared) (H : Hp) (C : Addr) (cl : List (Str × Addr)) (fp : List Addr), PG (X.blk s H scope (compEnvC scope cl C X.env) fp) tg (tG X.K X.mg go gg)) (ht : ∀ (s : Shared) (H : Hp) (C : Addr) (cl : List (Str × Addr)) (fp : List Addr), PTs (X.blk s H scope (compEnvC scope cl C X.env) fp) ifs (tB' X W0 tt))
    (he : ∀ (s : Shared) (H : Hp) (C : Addr) (cl : List (Str × Addr)) (fp : List Addr), PE (X.blk s H scope (compEnvC scope cl C X.env) fp) elt (tE X W0 te)) (hy : X.N[i]? = some y := by rfl) (hyl : X.env.scope.names.lookup y = some .local := by rfl) (hs : ∀ x, foldedSetIterable iter X.env x = pure x := by intro _; rfl) :
    PS X (.Assign [.Name y py] (.ListComp elt [⟨tg, iter, ifs, 0⟩] scope pos) spos) (tS X E (sSet i (dComp it gg (own.map (·.2)) tt te))) := by
  refine PS.imp (ps_setLc hc hN hy hyl hsw hi ok hg ht he hs) fun D σ H q => ?_
  obtain ⟨r, t, S, env, rel, g0⟩ := q
  exact tLc_of (W := WC E) hgo ⟨r, t, S, env, rel, g0.bind.mono fun d S1 r1 H1 ex so g1 v dv => Good.here g1 so _ ((rel.ext ex so).set i dv)⟩
/-- for -/
def forGo (g : DG) (b : DS) : List D → Ev → Sto → Out (Fl × Ev)
  | [], env, S => .ok (.nx, env) S
  | d :: ds, env, S => match g env d with
    | none => .bad
    | some env' => (b env' S).bind fun p S1 => match p.1 with
      | .nx => forGo g b ds p.2 S1
      | .ct => forGo g b ds p.2 S1
      | .bk => .ok (.nx, p.2) S1
      | .rt v => .ok (.rt v, p.2) S1
def sFor (it : DI) (g : DG) (b : DS) : DS := fun env S => (it env S).bind fun ds S1 => forGo g b ds env S1
theorem ds_for {tg iter : Expr} {body : List Stmt} {it : DI} {gg : DG} {own : List Nat} (hp : PassesOwn (model X.prog X.w) X.A X.env X.xe) (hc : X.calm = true) (hi : PI X tg iter (tI X (WC E) it)) (hg : PG X tg (tG X.K X.mg own gg)) (hb : PSs X body (tS X E f))
    (hs : ∀ x, foldedSetIterable iter X.env x = pure x := by intro _; rfl) : PS X (.For tg iter body [] pos) (tS X E (sFor it gg f)) := by
  refine PS.imp (ps_for hp hc hi hg hb hs) fun D σ H q => ?_
  obtain ⟨r, t, S, env, rel, g0⟩ := q
  refine ⟨r, t, S, env, rel, g0.bind.mono fun ds S1 r1 H1 ex so g1 J tok walk htok => ?_⟩
  refine ⟨fun i m σ2 H2 => m = ds.length - i ∧ i ≤ ds.length ∧ ∃ r2 S2 env2, Rel X.K X.mg H2 r2 t S2 env2 σ2 ∧ (∀ p ∈ tok, Den X.K H2 r2 t p.1 p.2) ∧ Good X.K X.mg t (EC E) r2 H2 (forGo gg f (ds.drop i) env2 S2) (RS X D t), ⟨ds.length, by simp, Nat.zero_le _, r1, S1, env, rel.ext ex so, htok, g1⟩, ?_⟩
  rintro i m σ2 H2 ⟨rfl, hi, r2, S2, env2, rel2, htok2, g2⟩
  have wk := walk i r2 t H2 S2 rel2.so htok2
  by_cases hlt : i < ds.length
  · obtain ⟨hgo1, hyl⟩ := wk.2 ds[i] (List.getElem?_eq_getElem hlt)
    rw [List.drop_eq_getElem_cons hlt] at g2
    unfold forGo at g2
    cases hE : gg env2 ds[i] with
    | none => rw [hE] at g2; exact (show False from g2).elim
    | some env' =>
      rw [hE] at g2
      dsimp only at g2
      refine .inr ⟨hgo1, fun σ3 H3 => ∃ m', m' < ds.length - i ∧ m' = ds.length - (i + 1) ∧ i + 1 ≤ ds.length ∧ ∃ r2 S2 env2, Rel X.K X.mg H3 r2 t S2 env2 σ3 ∧ (∀ p ∈ tok, Den X.K H3 r2 t p.1 p.2) ∧ Good X.K X.mg t (EC E) r2 H3 (forGo gg f (ds.drop (i + 1)) env2 S2) (RS X D t), fun σ' H' h => h, fun x H' y => ?_⟩
      obtain ⟨exy, soy, dx⟩ := hyl x H' y
      refine ⟨r2, t, S2, env2, ds[i], rel2.ext exy soy, dx, env', hE, fun σ3 rel3 _ => ?_⟩
      refine ⟨r2, t, S2, env', rel3, (g2.ext exy).bind.mono fun p S4 r4 H4 ex4 so4 g4 σ4 rel4 => ?_⟩
      have tk : ∀ p ∈ tok, Den X.K H4 r4 t p.1 p.2 := fun p hp => Den.ext (exy.trans ex4) _ _ (htok2 p hp)
      obtain ⟨fl, env4⟩ := p
      cases fl with
      | nx => exact ⟨ds.length - (i + 1), by omega, rfl, hlt, r4, S4, env4, rel4, tk, g4⟩
      | ct => exact ⟨ds.length - (i + 1), by omega, rfl, hlt, r4, S4, env4, rel4, tk, g4⟩
      | bk => exact Good.here g4 so4 σ4 rel4
      | rt d => exact Good.here g4 so4 σ4 rel4
  · have e : i = ds.length := by omega
    subst e
    rw [List.drop_length] at g2
    exact .inl ⟨wk.1 rfl, Good.here g2 rel2.so σ2 rel2⟩
/-- while, with a number of turns that is never reached -/
def whGo (c : DB) (b : DS) : Nat → Ev → Sto → Out (Fl × Ev)
  | 0, _, _ => .bad
  | n + 1, env, S => (c env S).bind fun k S1 => if k = true then (b env S1).bind fun p S2 => match p.1 with
      | .nx => whGo c b n p.2 S2
      | .ct => whGo c b n p.2 S2
      | .bk => .ok (.nx, p.2) S2
      | .rt v => .ok (.rt v, p.2) S2
    else .ok (.nx, env) S1
def turns : Nat := 1000000
def sWhile (c : DB) (b : DS) : DS := fun env S => whGo c b turns env S
theorem ds_while {c : Expr} {body : List Stmt} {tc : DB} (hp : PassesOwn (model X.prog X.w) X.A X.env X.xe) (hc : PT X c (tB' X (WC E) tc)) (hb : PSs X body (tS X E f)) : PS X (.While c body [] pos) (tS X E (sWhile tc f)) := by
  refine PS.imp (ps_while hp hc hb) fun D σ H q => ?_
  obtain ⟨r, t, S, env, rel, g0⟩ := q
  refine ⟨fun m σ2 H2 => ∃ r2 S2 env2, Rel X.K X.mg H2 r2 t S2 env2 σ2 ∧ Good X.K X.mg t (EC E) r2 H2 (whGo tc f m env2 S2) (RS X D t), ⟨turns, r, S, env, rel, g0⟩, ?_⟩
  rintro m σ2 H2 ⟨r2, S2, env2, rel2, g2⟩
  cases m with
  | zero => exact (show False from g2).elim
  | succ n =>
    unfold whGo at g2
    refine ⟨r2, t, S2, env2, rel2, g2.bind.mono fun k S3 r3 H3 ex3 so3 g3 => ?_⟩
    cases k with
    | false => exact iteF (Good.here (show Good X.K X.mg t (EC E) r3 H3 (.ok (.nx, env2) S3) (RS X D t) from g3) so3 σ2 (rel2.ext ex3 so3))
    | true =>
      rw [if_pos rfl] at g3 ⊢
      refine ⟨fun σ4 H4 => ∃ m', m' < n + 1 ∧ ∃ r2 S2 env2, Rel X.K X.mg H4 r2 t S2 env2 σ4 ∧ Good X.K X.mg t (EC E) r2 H4 (whGo tc f m' env2 S2) (RS X D t), fun σ' H' h => h, ?_⟩
      refine ⟨r3, t, S3, env2, rel2.ext ex3 so3, g3.bind.mono fun p S4 r4 H4 ex4 so4 g4 σ4 rel4 => ?_⟩
      obtain ⟨fl, env4⟩ := p
      cases fl with
      | nx => exact ⟨n, by omega, r4, S4, env4, rel4, g4⟩
      | ct => exact ⟨n, by omega, r4, S4, env4, rel4, g4⟩
      | bk => exact Good.here g4 so4 σ4 rel4
      | rt d => exact Good.here g4 so4 σ4 rel4

/-! ### stores -/
def asR : D → Option Nat
  | .ref n => some n
  | _ => none
/-- xs.append(e) -/
def dAppend (fo fa : DE) : DE := fun env S => (fo env S).bind fun o S1 => if (lstOf S1 o).isSome = true then (fa env S1).bind fun y S2 => match o, lstOf S2 o with
  | .ref n, some ds => if ds.length < sizeLine then .ok .non (S2.set n (.lst (ds ++ [y]))) else .bad
  | _, _ => .bad
  else .bad
/-- xs[i] = e, a list -/
def sPutL (fo fi fe : DE) : DS := fun env S => (fe env S).bind fun y S1 => (fo env S1).bind fun o S2 => (fi env S2).bind fun i S3 => match o, lstOf S3 o, i with
  | .ref n, some ds, .int k => match ixN ds.length k with
    | some j => .ok (.nx, env) (S3.set n (.lst (ds.set j y)))
    | none => .bad
  | _, _, _ => .bad
end
section
variable {X : Cx} {W : WX} {E : XK} {o e i : Expr} {fo fa fi fe : DE} {apos pos pos' : Pos} {K : PySem.W.Frag} {mg : Str → Option Value} {H : Hp} {r t : List Addr} {S : Sto}
theorem ref_lst {n : Nat} {v : V} {ds : List D} (so : SOk K mg H r t S) (dv : Den K H r t v (.ref n)) (h : lstOf S (.ref n) = some ds) : ∃ a xs, v = .ref a ∧ r[n]? = some a ∧ H a = some (.lst xs) ∧ DenL K H r t xs ds := by
  obtain ⟨a, xs, e1, h1, z⟩ := lst_ok so dv h
  cases dv with
  | ref hn => cases e1; exact ⟨a, xs, rfl, hn, h1, z⟩
/-- a list cell is written -/
theorem put_lst {n : Nat} {a : Addr} {xs ys : List V} {es : List D} (so : SOk K mg H r t S) (hn : r[n]? = some a) (h : H a = some (.lst xs)) (z : DenL K H r t ys es) : Ext r H r (upd H a (.lst ys)) ∧ SOk K mg (upd H a (.lst ys)) r t (S.set n (.lst es)) := by
  have ex : Ext r H r (upd H a (.lst ys)) := Ext.write h trivial (List.mem_of_getElem? hn)
  exact ⟨ex, so.write hn ⟨ys, upd_same, DenL.ext ex _ _ z⟩⟩
theorem de_append (hb : PE X e (tBM X.K "list" rAppend (tE X W fo) (tCons (tE X W fa) tNil))) : PE X e (tE X W (dAppend fo fa)) := by
  refine PE.imp hb fun σ H Q q => ?_
  obtain ⟨r, t, S, env, rel, g⟩ := q
  refine ⟨r, t, S, env, rel, g.bind.mono fun od S1 r1 H1 ex so g1 v dv => ?_⟩
  have rel1 := rel.ext ex so
  obtain ⟨hty, g2⟩ := g1.ite
  obtain ⟨ds, hds⟩ := Option.isSome_iff_exists.mp hty
  obtain ⟨a, xs, ev, ha1, _⟩ := lst_ok so dv hds
  refine ⟨by rw [ev]; exact Or.inl ⟨rfl, _, SqL.of ha1⟩, r1, t, S1, env, rel1, g2.bind.mono fun y S2 r2 H2 ex2 so2 g3 yv dy => ?_⟩
  split at g3
  · rename_i n es he
    obtain ⟨hl, g4⟩ := g3.ite
    obtain ⟨b, ys, ev2, hn, hb, z⟩ := ref_lst so2 (Den.ext ex2 _ _ dv) he
    refine ⟨b, ys, yv, ev2, rfl, hb, by rw [z.length]; exact hl, ?_⟩
    obtain ⟨ex3, so3⟩ := put_lst so2 hn hb (z.append (.cons dy .nil))
    exact g4 _ r2 ex3 so3 _ .non
  · exact (show False from g3).elim
theorem ds_putL (ho : PE X o (tE X (WC E) fo)) (hi : PE X i (tE X (WC E) fi)) (he : PE X e (tE X (WC E) fe)) (hs : swapsWithSole [.Subscript o i pos'] e pos.line X.env = pure false := by rfl) (hw : swappedStores [.Subscript o i pos'] e X.env = pure none := by rfl)
    (h1 : (assignEach [.Subscript o i pos'] X.env).map (·.2) = [assign (.Subscript o i pos') X.env] := by rfl) (ha : ∀ v, assign (.Subscript o i pos') X.env v = (do
      let ov ← holding [v] (eval o X.env)
      let iv ← holding [v, ov] (eval i X.env)
      standAt pos'
      holding [v, ov, iv] (setItem ov iv v)
      release [v, ov, iv] []) := by intro _; rfl) : PS X (.Assign [.Subscript o i pos'] e pos) (tS X E (sPutL fo fi fe)) := by
  refine PS.imp (ps_asg he (pg_sub ho hi set_list ha) hs hw h1) fun D σ H q => ?_
  obtain ⟨r, t, S, env, rel, g⟩ := q
  refine ⟨r, t, S, env, rel, g.bind.mono fun y S1 r1 H1 ex so g1 yv dy => ?_⟩
  have rel1 := rel.ext ex so
  refine ⟨r1, t, S1, env, rel1, g1.bind.mono fun od S2 r2 H2 ex2 so2 g2 ov dov => ?_⟩
  have rel2 := rel1.ext ex2 so2
  refine ⟨r2, t, S2, env, rel2, g2.bind.mono fun id S3 r3 H3 ex3 so3 g3 iv div => ?_⟩
  split at g3
  · rename_i n ds k hds
    split at g3
    · rename_i j hj
      obtain ⟨b, ys, ev2, hn, hb, z⟩ := ref_lst so3 (Den.ext ex3 _ _ dov) hds
      cases div
      obtain ⟨ex4, so4⟩ := put_lst so3 hn hb (z.set j (Den.ext (ex2.trans ex3) _ _ dy))
      exact ⟨b, ys, k, j, ev2, rfl, hb, by rw [z.length]; exact hj, g3 _ r3 ex4 so4 σ ((rel2.ext ex3 so3).ext ex4 so4)⟩
    · exact (show False from g3).elim
  · exact (show False from g3).elim
end

/-! ### defs -/
section
variable {P : Program} {w : World} {K : PySem.W.Frag} {mg : Str → Option Value} {base : Heap}
def dFun (m : Nat) (g : DS) : Fn := fun ds S => (g (ds.map some ++ List.replicate (m - ds.length) none) S).bind fun p S1 => match p.1 with
  | .nx => .ok .non S1
  | .rt d => .ok d S1
  | _ => .bad
/-- .. that lets no exception out -/
def dFun0 (m : Nat) (g : DS) : Fn := fun ds S => noexc (dFun m g ds S)
theorem rel_start {H : Hp} {r t : List Addr} {S : Sto} {vs : List V} {ds : List D} {N : List Str} (so : SOk K mg H r t S) (z : DenL K H r t vs ds) : Rel K mg H r t S (ds.map some ++ List.replicate (N.length - ds.length) none) (start N vs) := by
  unfold start
  refine ⟨so, by simp [z.length], fun i d h => ?_⟩
  by_cases hi : i < ds.length
  · rw [List.getElem?_append_left (by rw [List.length_map]; exact hi), List.getElem?_map] at h
    obtain ⟨d', h1, h2⟩ := Option.map_eq_some_iff.mp h
    have e := Option.some.inj h2
    subst e
    obtain ⟨v, h3, h4⟩ := z.get h1
    refine ⟨v, ?_, h4⟩
    rw [List.getElem?_append_left (by rw [List.length_map, z.length]; exact hi), List.getElem?_map, h3]
    rfl
  · rw [List.getElem?_append_right (by rw [List.length_map]; omega)] at h
    exact absurd (List.mem_of_getElem? h) (by simp)
theorem fin_start {X : Cx} {H : Hp} {r t : List Addr} {S : Sto} {vs : List V} {ds : List D} {Q : VK} {E : XK} {g : DS} {m : Nat} (rel : Rel X.K X.mg H r t S (ds.map some ++ List.replicate (m - ds.length) none) σ0)
    (q : Good X.K X.mg t (EC E) r H (dFun m g ds S) fun d _ r' H' => ∀ v, Den X.K H' r' t v d → Q v H') : tS X E g { nx := fun _ H' => Q .non H', rt := Q } σ0 H := by
  refine ⟨r, t, S, _, rel, (Good.bind q).mono fun p S1 r1 H1 ex so g1 σ1 rel1 => ?_⟩
  obtain ⟨fl, env⟩ := p
  cases fl with
  | nx => exact Good.here g1 so _ .non
  | rt d => exact fun v dv => Good.here g1 so v dv
  | bk => exact (show False from g1).elim
  | ct => exact (show False from g1).elim
theorem good0 {A : Type} {t r : List Addr} {H : Hp} {E E' : Addr → Hp → Prop} {m : Out A} {R : A → Sto → List Addr → Hp → Prop} (g : Good K mg t E r H (noexc m) R) : Good K mg t E' r H m R := by
  cases m with
  | ok a S => exact g
  | exc c S => exact (show False from g).elim
  | bad => exact (show False from g).elim
theorem Fun.okD {x qual : Str} {st : Stmt} {f : Addr} {fd : FuncData} {N ps : List Str} {k n : Nat} {g : DS} (F : Fun K x qual st f fd) (S : FnScope N ps (defScope st)) (hn : ps.length = n)
    (hbody : ∀ (cdv : Value) (A : Around) (outer : List Env) (s : Shared) (H : Hp) (E : XK), Room k (A.deeper (envOfC qual (defScope st) s.heap.objs.size f cdv)) →
      PSs (cxOf CX0 P w K mg base N qual (defScope st) f cdv A outer s H E).nox (defBody st) (tS (cxOf CX0 P w K mg base N qual (defScope st) f cdv A outer s H E).nox E0 g)) : FnOk P w K mg base CX0 (k + 1) f fd ps (spD K mg n (dFun0 N.length g)) := by
  refine F.ok S (fun vs H Q E h => h.1.trans hn.symm) fun cdv A outer s H vs Q E hr h => ⟨_, hbody cdv A outer s H E hr, ?_⟩
  obtain ⟨_, r, t, S0, ds, so, z, q⟩ := h
  exact fin_start (X := (cxOf CX0 P w K mg base N qual (defScope st) f cdv A outer s H E).nox) (vs := vs) (rel_start so z) (good0 q)
/-- a def that may raise -/
theorem Fun.okXD {x qual : Str} {st : Stmt} {f : Addr} {fd : FuncData} {N ps : List Str} {k n : Nat} {g : DS} (F : Fun K x qual st f fd) (S : FnScope N ps (defScope st)) (hn : ps.length = n)
    (hbody : ∀ (cdv : Value) (A : Around) (outer : List Env) (s : Shared) (H : Hp) (E : XK), Room k (A.deeper (envOfC qual (defScope st) s.heap.objs.size f cdv)) →
      PSs (cxOf (L2.CX P w) P w K mg base N qual (defScope st) f cdv A outer s H E) (defBody st) (tS (cxOf (L2.CX P w) P w K mg base N qual (defScope st) f cdv A outer s H E) E g)) : FnOk P w K mg base (L2.CX P w) (k + 1) f fd ps (spD K mg n (dFun N.length g)) := by
  refine F.okX S (fun vs H Q E h => h.1.trans hn.symm) fun cdv A outer s H vs Q E hr h => ⟨_, hbody cdv A outer s H E hr, ?_⟩
  obtain ⟨_, r, t, S0, ds, so, z, q⟩ := h
  exact fin_start (X := cxOf (L2.CX P w) P w K mg base N qual (defScope st) f cdv A outer s H E) (vs := vs) (rel_start so z) q
/-- another function that comes to the same -/
theorem spD_imp {n : Nat} {f f' : Fn} (h : ∀ ds S, ds.length = n → f ds S = f' ds S) : ∀ vs H Q E, spD K mg n f' vs H Q E → spD K mg n f vs H Q E := fun vs H Q E q => by
  obtain ⟨h1, r, t, S, ds, so, z, g⟩ := q
  refine ⟨h1, r, t, S, ds, so, z, ?_⟩
  rw [h ds S (z.length.symm.trans h1)]
  exact g
/-- a def of the module that may be called -/
structure Callee (P : Program) (w : World) (K : PySem.W.Frag) (mg : Str → Option Value) (base : Heap) (CX : CXT) (k : Nat) (x : Str) (n : Nat) (fn : Fn) : Prop where
  ex : ∃ f fd ps, FnOk P w K mg base CX k f fd ps (spD K mg n fn) ∧ mg x = some (.ref f) ∧ PySem.W.keepIn K (.ref f) = true ∧ Binds K fd ps []
theorem Callee.up {CX : CXT} {j k n : Nat} {x : Str} {fn : Fn} (c : Callee P w K mg base CX j x n fn) (h : j ≤ k) : Callee P w K mg base CX k x n fn := by
  obtain ⟨f, fd, ps, F, a, b, d⟩ := c
  exact ⟨f, fd, ps, F.mono h, a, b, d⟩
/-- it comes to another function that is the same -/
theorem Callee.as {CX : CXT} {k n : Nat} {x : Str} {fn fn' : Fn} (c : Callee P w K mg base CX k x n fn) (h : ∀ ds S, ds.length = n → fn ds S = fn' ds S) : Callee P w K mg base CX k x n fn' := by
  obtain ⟨f, fd, ps, F, a, b, d⟩ := c
  exact ⟨f, fd, ps, F.imp (spD_imp h), a, b, d⟩
theorem de_callC {X : Cx} {W : WX} {CX : CXT} {k n : Nat} {fn : Fn} {x : Str} {p pos : Pos} {e : Expr} {es : List Expr} {fs : DA} (c : Callee X.prog X.w X.K X.mg X.base CX k x n fn) (hr : Room k X.A) (hx : Thru CX X W) (ha : ArgN X W (e :: es) fs n) (hg : Gl X x := by rfl) (hdb : (x == ("__debug__" : Str)) = false := by decide)
    (he : starEach (e :: es) X.env = (false, eval e X.env) :: starEach es X.env := by rfl) (hpl : (backTo pos (starEach es X.env)).any (·.1) = false := by rfl) : PE X (.Call (.Name x p) (e :: es) [] pos) (tE X W (dCallF fn fs)) := by
  obtain ⟨f, fd, ps, F, a, b, d⟩ := c
  exact de_callF F hr hg a b d hx ha hdb he hpl
theorem hu65 {A : Around} {k : Nat} (hr : Room k A) : A.units + 65 < cLine := by have := hr.un; omega
end
end DL
end L2

set_option Elab.async false
set_option linter.all false
set_option maxRecDepth 100000
namespace L2
namespace DL
open PySem PySem.Spec PyProof.Rows

theorem sum_rawT {prog : Program} {w : World} {A : Around} {E : Value → Shared → Prop} {s : Shared} {l : Addr} {its : List Value} {ns : List Int} {Q : Value → Shared → Prop} (hh : A.handled = none) (hl : s.heap.IsTuple l its.toArray) (hi : IntsAre its ns)
    (h : ∀ h' tk t', (∀ b o, s.heap.get? b = some o → h'.get? b = some o) → Q (.int ns.sum t') { s with heap := h', toks := tk }) : wpAny (model prog w) A (call (.builtin "sum") [.ref l]) Q E s := by
  obtain ⟨xs, e⟩ := hi.allInts.items
  have hn : numsOf (intItems xs).toList = ns := by rw [← e]; exact hi.numsOf
  rw [nums_intItems] at hn
  rw [e] at hl
  refine PySem.W.ktm_sumG hh hl fun h' tk t' hk => ?_
  have := h h' tk t' hk
  rw [preSum_eq, List.take_of_length_le (by simp), hn]; exact this
section
variable {X : Cx}
theorem cr_sumT (hc : X.calm = true) : CallR X (.builtin "sum") (fun vs H Q => ∃ (a : Addr) (ns : List Int), vs = [V.ref a] ∧ SqT X.K H a (ns.map V.int) ∧ Q (.int ns.sum) H) := by
  intro pins s σ H vs us Q I r h
  obtain ⟨a, ns, rfl, hs, q⟩ := h
  obtain ⟨its, rv, hl, _⟩ := I.tuple hs
  rw [Vals.ref1 r]
  exact sum_rawT (I.ok.hd hc) (show s.heap.IsTuple a its.toArray from hl) rv.ints fun h' tk t' hk => ⟨.int _, H, I.kept hk, ⟨_, rfl⟩, q⟩
def oSumT : Sto → List D → Option D := fun _ ds => match ds with
  | [.tup xs] => (intsOf xs).map fun bs => .int bs.sum
  | _ => none
theorem cd_sumT (hc : X.calm = true) : CallD X (.builtin "sum") oSumT := by
  refine ⟨_, cr_sumT hc, fun r t S H ds vs d Q so dv e q => ?_⟩
  unfold oSumT at e
  split at e
  · obtain ⟨bs, h1, h2⟩ := Option.map_eq_some_iff.mp e
    subst h2
    cases dv with
    | cons d1 d2 =>
      cases d2
      cases d1 with
      | tup h3 z =>
        rw [ints_eq h1] at z
        rw [z.ints] at h3
        exact ⟨_, bs, rfl, h3, q _ _ (Ext.refl _ _) so (.int _)⟩
  · cases e
def oSum : Sto → List D → Option D := orC oSumT oSumL
theorem cd_sum (hc : X.calm = true) : CallD X (.builtin "sum") oSum := (cd_sumT hc).or (cd_sumL hc)
/-- {} -/
def dNewK : DE := fun _ S => .ok (.ref S.length) (S ++ [.dK []])
def dNewT : DE := fun _ S => .ok (.ref S.length) (S ++ [.dT []])
theorem growC {K : PySem.W.Frag} {mg : Str → Option Value} {H : Hp} {r t : List Addr} {S : Sto} {p : Addr} {o : HO} {c : Cell} (so : SOk K mg H r t S) (hp : H p = none) (hc : CellOk K mg (upd H p o) (r ++ [p]) t p c) :
    SOk K mg (upd H p o) (r ++ [p]) t (S ++ [c]) ∧ Den K (upd H p o) (r ++ [p]) t (.ref p) (.ref S.length) := by
  refine ⟨so.grow hp hc, .ref ?_⟩
  rw [← so.len, List.getElem?_append_right (Nat.le_refl _), Nat.sub_self]
  rfl
theorem de_newK {W : WX} {pos : Pos} : PE X (.Dict [] [] pos) (tE X W dNewK) := by
  refine PE.imp pe_dnewK fun σ H Q q p hp => ?_
  obtain ⟨r, t, S, env, rel, g⟩ := q
  obtain ⟨so, d⟩ := growC (o := .dK []) (c := .dK []) rel.so hp ⟨[], upd_same, rfl, .nil⟩
  exact g _ _ (Ext.grow hp) so _ d
theorem de_newT {W : WX} {pos : Pos} : PE X (.Dict [] [] pos) (tE X W dNewT) := by
  refine PE.imp pe_dnewT fun σ H Q q p hp => ?_
  obtain ⟨r, t, S, env, rel, g⟩ := q
  obtain ⟨so, d⟩ := growC (o := .dT []) (c := .dT []) rel.so hp ⟨[], upd_same, rfl, .nil⟩
  exact g _ _ (Ext.grow hp) so _ d
end
/-- the law's promise, by what its function comes to -/
def spLaw (K : PySem.W.Frag) : Sp := fun vs H Q _ => ∃ (a : Addr) (ns : List Int), vs = [.ref a] ∧ FzL K H a (ns.map V.int) ∧ ns.length ≤ 63 ∧ ∀ H', Q (.bl true) H'
theorem denInts {K : PySem.W.Frag} {H : Hp} {r t : List Addr} : ∀ ns : List Int, DenL K H r t (ns.map V.int) (ns.map D.int)
  | [] => .nil
  | n :: ns => .cons (.int n) (denInts ns)
theorem law_ok {P : Program} {w : World} {K : PySem.W.Frag} {mg : Str → Option Value} {base : Heap} {CX : CXT} {k : Nat} {f : Addr} {fd : FuncData} {ps : List Str} {fn : Fn} (F : FnOk P w K mg base CX k f fd ps (spD K mg 1 fn))
    (h : ∀ ns : List Int, ns.length ≤ 63 → ∃ S, fn [.fz (ns.map D.int)] [] = .ok (.bl true) S) : FnOk P w K mg base CX k f fd ps (spLaw K) := by
  refine F.imp fun vs H Q E q => ?_
  obtain ⟨a, ns, rfl, hS, hl, q⟩ := q
  obtain ⟨S, e⟩ := h ns hl
  refine ⟨rfl, [], [], [], [.fz (ns.map D.int)], ⟨rfl, List.nodup_nil, fun n a c h => by simp at h, fun a h => by cases h⟩, .cons (.fz hS (denInts ns)) .nil, ?_⟩
  rw [e]
  intro H' r' _ _ v dv
  cases dv
  exact q H'
theorem only_fz {K : PySem.W.Frag} {H : Hp} {a : Addr} {xs : List V} (hO : Only H) (hS : SqL K H a xs) : FzL K H a xs := by
  rcases hS with (h | ⟨o, h⟩) | h
  · rcases hO a with z | ⟨o, ys, z⟩
    · rw [h] at z; cases z
    · rw [h] at z; cases z
  · exact .inl ⟨o, h⟩
  · exact .inr h
/-- the places of a def in the written part -/
theorem callee_mk {P : Program} {w : World} {K : PySem.W.Frag} {mg : Str → Option Value} {base : Heap} {CX : CXT} {k n : Nat} {x : Str} {fn : Fn} (c : Callee P w K mg base CX k x n fn) : Callee P w K mg base CX k x n fn := c
end DL
end L2

set_option Elab.async false
set_option linter.all false
set_option maxRecDepth 100000
namespace L2
namespace DL
open PySem PySem.Spec PyProof.Rows

/-! ### reckoning -/
theorem lift_some {A : Type} (a : A) (S : Sto) : lift (some a) S = .ok a S := rfl
theorem lift_none {A : Type} (S : Sto) : lift (none : Option A) S = .bad := rfl
theorem orO_some {o o' : Sto → D → D → Option D} {S : Sto} {x y d : D} (h : o S x y = some d) : orO o o' S x y = some d := by unfold orO; rw [h]
theorem orO_none {o o' : Sto → D → D → Option D} {S : Sto} {x y : D} (h : o S x y = none) : orO o o' S x y = o' S x y := by unfold orO; rw [h]
theorem iOp_int (c : Int → Int → Bool) (g : Int → Int → D) (S : Sto) (i j : Int) : iOp c g S (.int i) (.int j) = if c i j = true then some (g i j) else none := rfl
theorem add_ii (S : Sto) (i j : Int) : oAdd S (.int i) (.int j) = some (.int (i + j)) := rfl
theorem sub_ii (S : Sto) (i j : Int) : oSub S (.int i) (.int j) = some (.int (i - j)) := rfl
theorem neg_i (i : Int) : oNeg (.int i) = some (.int (-i)) := rfl
theorem lt_ii (S : Sto) (i j : Int) : oLt S (.int i) (.int j) = some (.bl (decide (i < j))) := rfl
theorem le_ii (S : Sto) (i j : Int) : oLe S (.int i) (.int j) = some (.bl (decide (i ≤ j))) := rfl
theorem gt_ii (S : Sto) (i j : Int) : oGt S (.int i) (.int j) = some (.bl (decide (j < i))) := rfl
theorem ge_ii (S : Sto) (i j : Int) : oGe S (.int i) (.int j) = some (.bl (decide (j ≤ i))) := rfl
theorem eq_ii (S : Sto) (i j : Int) : oEq S (.int i) (.int j) = some (.bl (decide (i = j))) := by
  show some (D.bl (false ^^ decide (i = j))) = _
  rw [Bool.false_xor]
theorem ne_ii (S : Sto) (i j : Int) : oNe S (.int i) (.int j) = some (.bl (!decide (i = j))) := by
  show some (D.bl (true ^^ decide (i = j))) = _
  rw [Bool.true_xor]
theorem eq_ss (S : Sto) (i j : Str) : oEq S (.str i) (.str j) = some (.bl (decide (i = j))) := by
  show some (D.bl (false ^^ decide (i = j))) = _
  rw [Bool.false_xor]
theorem ne_ss (S : Sto) (i j : Str) : oNe S (.str i) (.str j) = some (.bl (!decide (i = j))) := by
  show some (D.bl (true ^^ decide (i = j))) = _
  rw [Bool.true_xor]
theorem isnot_bb (S : Sto) (i j : Bool) : oIsNot S (.bl i) (.bl j) = some (.bl (!decide (i = j))) := by
  show some (D.bl (true ^^ decide (i = j))) = _
  rw [Bool.true_xor]
theorem is_bb (S : Sto) (i j : Bool) : oIs S (.bl i) (.bl j) = some (.bl (decide (i = j))) := by
  show some (D.bl (false ^^ decide (i = j))) = _
  rw [Bool.false_xor]
theorem is_non (S : Sto) (d : D) : oIs S d .non = some (.bl (isNonD d)) := by
  refine (orO_none (by cases d <;> rfl)).trans ?_
  show some (D.bl (false ^^ isNonD d)) = _
  rw [Bool.false_xor]
theorem isnot_non (S : Sto) (d : D) : oIsNot S d .non = some (.bl (!isNonD d)) := by
  refine (orO_none (by cases d <;> rfl)).trans ?_
  show some (D.bl (true ^^ isNonD d)) = _
  rw [Bool.true_xor]
theorem mul_ii {i j : Int} (S : Sto) (h : i.natAbs < 2 ^ 64 ∨ j.natAbs < 2 ^ 64) : oMul S (.int i) (.int j) = some (.int (i * j)) := by
  refine orO_some ((iOp_int _ _ _ _ _).trans (if_pos ?_))
  unfold mulC
  rw [Bool.or_eq_true, decide_eq_true_eq, decide_eq_true_eq]
  exact h
theorem mod_ii {i j : Int} (S : Sto) (h : 0 < j) : oMod S (.int i) (.int j) = some (.int (i % j)) := (iOp_int _ _ _ _ _).trans (if_pos (decide_eq_true h))
theorem div_ii {i j : Int} (S : Sto) (h : 0 < j) (h2 : j < 2 ^ 80) : oDiv S (.int i) (.int j) = some (.int (i / j)) := by
  refine (iOp_int _ _ _ _ _).trans (if_pos ?_)
  unfold divC
  rw [Bool.and_eq_true, decide_eq_true_eq, decide_eq_true_eq]
  exact ⟨h, h2⟩
theorem pow_ii {i j : Int} (S : Sto) (h : 0 ≤ j) (h2 : j ≤ 1000000) (h3 : i.natAbs < 2 ^ 64) : oPow S (.int i) (.int j) = some (.int (i ^ j.toNat)) := by
  refine (iOp_int _ _ _ _ _).trans (if_pos ?_)
  unfold powC
  rw [Bool.and_eq_true, Bool.and_eq_true, decide_eq_true_eq, decide_eq_true_eq, decide_eq_true_eq]
  exact ⟨⟨h, h2⟩, h3⟩
theorem at_nat {ds : List D} {i : Int} {d : D} (h0 : 0 ≤ i) (h : ds[i.toNat]? = some d) : atI ds i = some d := by
  have e : i = ((i.toNat : Nat) : Int) := by omega
  rw [e]
  exact atI_nat h
theorem ix_tupD (S : Sto) (ds : List D) (i : Int) : oIx S (.tup ds) (.int i) = atI ds i := by
  refine (orO_none rfl).trans ?_
  cases h : atI ds i with
  | none => exact (orO_none h).trans rfl
  | some d => exact orO_some h
theorem ix_lstD (S : Sto) (ds : List D) (i : Int) : oIx S (.lst ds) (.int i) = atI ds i := by
  cases h : atI ds i with
  | none => exact (orO_none h).trans rfl
  | some d => exact orO_some h
theorem ix_fzD (S : Sto) (ds : List D) (i : Int) : oIx S (.fz ds) (.int i) = atI ds i := by
  cases h : atI ds i with
  | none => exact (orO_none h).trans rfl
  | some d => exact orO_some h
theorem lst_ref {S : Sto} {n : Nat} {ds : List D} (hn : S[n]? = some (.lst ds)) : lstOf S (.ref n) = some ds := by
  unfold lstOf
  dsimp only
  rw [hn]
theorem list_ref {S : Sto} {n : Nat} {ds : List D} (hn : S[n]? = some (.lst ds)) : listOf S (.ref n) = some ds := lst_ref hn
theorem ix_refD {S : Sto} {n : Nat} {ds : List D} {i : Int} (hn : S[n]? = some (.lst ds)) : oIx S (.ref n) (.int i) = atI ds i := by
  have e : oIxL S (.ref n) (.int i) = atI ds i := by
    unfold oIxL
    rw [list_ref hn]
  cases h : atI ds i with
  | none => exact (orO_none (e.trans h)).trans rfl
  | some d => exact orO_some (e.trans h)
theorem at_lit0 (d : D) (ds : List D) : atI (d :: ds) 0 = some d := atI_nat (j := 0) rfl
theorem at_lit1 (a d : D) (ds : List D) : atI (a :: d :: ds) 1 = some d := atI_nat (j := 1) rfl
theorem at_lit2 (a b d : D) (ds : List D) : atI (a :: b :: d :: ds) 2 = some d := atI_nat (j := 2) rfl
theorem at_lit3 (a b c d : D) (ds : List D) : atI (a :: b :: c :: d :: ds) 3 = some d := atI_nat (j := 3) rfl
theorem len_fz (S : Sto) (ds : List D) : oLen S [.fz ds] = some (.int ds.length) := rfl
theorem len_lst (S : Sto) (ds : List D) : oLen S [.lst ds] = some (.int ds.length) := rfl
theorem len_tup (S : Sto) (ds : List D) : oLen S [.tup ds] = some (.int ds.length) := rfl
theorem len_ref {S : Sto} {n : Nat} {ds : List D} (hn : S[n]? = some (.lst ds)) : oLen S [.ref n] = some (.int ds.length) := by
  show (listOf S (.ref n)).map _ = _
  rw [list_ref hn]
  rfl
/-- a comprehension whose elements leave the store within I -/
theorem compGo_inv {g : DG} {env : Ev} {te : DE} (I : Sto → Prop) (P : D → Prop) : ∀ (ds acc : List D) (S : Sto), I S → (∀ d ∈ ds, ∀ S, I S → ∃ env' y S', g env d = some env' ∧ te env' S = .ok y S' ∧ I S' ∧ P y) → acc.length + ds.length ≤ sizeLine →
    ∃ ys S', compGo g env bYes te ds acc S = .ok (acc ++ ys) S' ∧ I S' ∧ ys.length = ds.length ∧ ∀ y ∈ ys, P y
  | [], acc, S, hI, _, _ => ⟨[], S, by rw [List.append_nil]; rfl, hI, rfl, fun _ h => by cases h⟩
  | d :: ds, acc, S, hI, hs, hl => by
    obtain ⟨env', y, S1, e1, e2, hI1, py⟩ := hs d List.mem_cons_self S hI
    rw [List.length_cons] at hl
    obtain ⟨ys, S2, e3, hI2, e4, py2⟩ := compGo_inv I P ds (acc ++ [y]) S1 hI1 (fun d hd => hs d (List.mem_cons_of_mem _ hd)) (by rw [List.length_append]; simp only [List.length_cons, List.length_nil]; omega)
    refine ⟨y :: ys, S2, ?_, hI2, by rw [List.length_cons, List.length_cons, e4], fun z hz => ?_⟩
    · unfold compGo
      rw [e1]
      dsimp only
      unfold bYes
      show (noexc (te env' S)).bind _ = _
      rw [e2]
      show (if acc.length < sizeLine then compGo g env bYes te ds (acc ++ [y]) S1 else .bad) = _
      rw [if_pos (by omega), e3, List.append_assoc]
      rfl
    · rcases List.mem_cons.mp hz with e | e
      · rw [e]; exact py
      · exact py2 z e
/-- a pure one -/
theorem compGo_map {g : DG} {env : Ev} {te : DE} {S : Sto} (f : D → D) : ∀ (ds acc : List D), (∀ d ∈ ds, ∃ env', g env d = some env' ∧ te env' S = .ok (f d) S) → acc.length + ds.length ≤ sizeLine → compGo g env bYes te ds acc S = .ok (acc ++ ds.map f) S
  | [], acc, _, _ => by rw [List.map_nil, List.append_nil]; rfl
  | d :: ds, acc, hs, hl => by
    obtain ⟨env', e1, e2⟩ := hs d List.mem_cons_self
    rw [List.length_cons] at hl
    have ih := compGo_map f ds (acc ++ [f d]) (fun d hd => hs d (List.mem_cons_of_mem _ hd)) (by rw [List.length_append]; simp only [List.length_cons, List.length_nil]; omega)
    unfold compGo
    rw [e1]
    dsimp only
    unfold bYes
    show (noexc (te env' S)).bind _ = _
    rw [e2]
    show (if acc.length < sizeLine then compGo g env bYes te ds (acc ++ [f d]) S else .bad) = _
    rw [if_pos (by omega), ih, List.append_assoc]
    rfl
/-- a for whose turns go on, or leave the loop -/
theorem forGo_inv {g : DG} {b : DS} (I : Ev → Sto → Prop) : ∀ (ds : List D) (env : Ev) (S : Sto), I env S → (∀ d ∈ ds, ∀ env S, I env S → ∃ env1 fl env2 S', g env d = some env1 ∧ b env1 S = .ok (fl, env2) S' ∧ I env2 S' ∧ (fl = .nx ∨ fl = .bk)) →
    ∃ env' S', forGo g b ds env S = .ok (.nx, env') S' ∧ I env' S'
  | [], env, S, hI, _ => ⟨env, S, rfl, hI⟩
  | d :: ds, env, S, hI, hs => by
    obtain ⟨env1, fl, env2, S1, e1, e2, hI1, hfl⟩ := hs d List.mem_cons_self env S hI
    rcases hfl with e | e
    · subst e
      obtain ⟨env', S', e3, hI2⟩ := forGo_inv I ds env2 S1 hI1 (fun d hd => hs d (List.mem_cons_of_mem _ hd))
      refine ⟨env', S', ?_, hI2⟩
      unfold forGo
      rw [e1]
      dsimp only
      rw [e2]
      exact e3
    · subst e
      refine ⟨env2, S1, ?_, hI1⟩
      unfold forGo
      rw [e1]
      dsimp only
      rw [e2]
      rfl
theorem seq_nx {f g : DS} {env env' : Ev} {S S' : Sto} (h : f env S = .ok (.nx, env') S') : sSeq f g env S = g env' S' := by
  unfold sSeq
  rw [h]
  rfl
theorem seq_rt {f g : DS} {env env' : Ev} {S S' : Sto} {d : D} (h : f env S = .ok (.rt d, env') S') : sSeq f g env S = .ok (.rt d, env') S' := by
  unfold sSeq
  rw [h]
  rfl
theorem seq_fl {f g : DS} {env env' : Ev} {S S' : Sto} {fl : Fl} (h : f env S = .ok (fl, env') S') (hf : fl ≠ .nx) : sSeq f g env S = .ok (fl, env') S' := by
  unfold sSeq
  rw [h]
  cases fl with
  | nx => exact absurd rfl hf
  | _ => rfl
theorem if_t {c : DB} {f g : DS} {env : Ev} {S S' : Sto} (h : c env S = .ok true S') : sIf c f g env S = f env S' := by
  unfold sIf
  rw [h]
  rfl
theorem if_f {c : DB} {f g : DS} {env : Ev} {S S' : Sto} (h : c env S = .ok false S') : sIf c f g env S = g env S' := by
  unfold sIf
  rw [h]
  rfl
theorem fun0_rt {m : Nat} {g : DS} {ds : List D} {S S' : Sto} {d : D} {env : Ev} (h : g (ds.map some ++ List.replicate (m - ds.length) none) S = .ok (.rt d, env) S') : dFun0 m g ds S = .ok d S' := by
  unfold dFun0 dFun
  rw [h]
  rfl
theorem asB_bl (b : Bool) : asB (.bl b) = some b := rfl
theorem ite_ok {A : Type} {c : Bool} {x y : A} : (if c = true then x else y) = bif c then x else y := by cases c <;> rfl
theorem putL_ref {fo fi fe : DE} {env : Ev} {S S1 S2 S3 : Sto} {y : D} {n j : Nat} {ds : List D} {k : Int} (h1 : fe env S = .ok y S1) (h2 : fo env S1 = .ok (.ref n) S2) (h3 : fi env S2 = .ok (.int k) S3) (hl : S3[n]? = some (.lst ds)) (hk : ixN ds.length k = some j) :
    sPutL fo fi fe env S = .ok (.nx, env) (S3.set n (.lst (ds.set j y))) := by
  unfold sPutL
  rw [h1, Out.bind_ok, h2, Out.bind_ok, h3, Out.bind_ok, lst_ref hl]
  dsimp only
  rw [hk]
theorem append_ref {fo fa : DE} {env : Ev} {S S1 S2 : Sto} {y : D} {n : Nat} {ds es : List D} (h1 : fo env S = .ok (.ref n) S1) (hl : S1[n]? = some (.lst ds)) (h2 : fa env S1 = .ok y S2) (hl2 : S2[n]? = some (.lst es)) (hz : es.length < sizeLine) :
    dAppend fo fa env S = .ok .non (S2.set n (.lst (es ++ [y]))) := by
  unfold dAppend
  rw [h1, Out.bind_ok, lst_ref hl]
  refine (if_pos (show (some ds).isSome = true from rfl)).trans ?_
  rw [h2, Out.bind_ok, lst_ref hl2]
  dsimp only
  rw [if_pos hz]
theorem set_get {S : Sto} {n : Nat} {c d : Cell} (h : S[n]? = some c) : (S.set n d)[n]? = some d := List.getElem?_set_self (List.getElem?_eq_some_iff.mp h).1
theorem set_set (S : Sto) (n : Nat) (c d : Cell) : (S.set n c).set n d = S.set n d := List.set_set ..
theorem set_same {S : Sto} {n : Nat} {c : Cell} (h : S[n]? = some c) : S.set n c = S := by
  refine List.ext_getElem? fun i => ?_
  by_cases e : n = i
  · subst e; rw [set_get h, h]
  · rw [List.getElem?_set_ne e]
end DL
end L2

set_option Elab.async false
set_option linter.all false
set_option maxRecDepth 100000
namespace L2
namespace DL
namespace G
open PySem PySem.Spec PyProof.Rows
section
variable {P : Program} {w : World} {K : PySem.W.Frag} {mg : Str → Option Value} {base : Heap}
def topS (i : Nat) : Stmt := PySem.Challenge.pw_meetwall_k51_counted_meetings_of_anythin.main.body.getD i (.Pass ⟨0, 0, 0, 0⟩)
/-! ### is_count -/
abbrev st_is_count : Stmt := topS 1
abbrev N_is_count : List Str := ["thing"]
theorem sc_is_count : FnScope N_is_count ["thing"] (defScope st_is_count) := ⟨rfl, rfl, rfl, by decide +kernel, rfl, by decide +kernel, by decide +kernel⟩
def d_is_count : DS := (sRet (dAnd (dCall oIsInst (aCons (dVar 0) (aCons (dC (.ty "int")) aNil))) (dAnd (dNot (dCall oIsInst (aCons (dVar 0) (aCons (dC (.ty "bool")) aNil)))) (dBin oGe (dVar 0) (dC (.int 0))))))
def f_is_count : Fn := dFun0 1 d_is_count
theorem ok_is_count {k : Nat} {f : Addr} {fd : FuncData} (F : Fun K "is_count" "is_count" st_is_count f fd) (b : Binds K fd ["thing"] []) (m : mg "is_count" = some (.ref f)) (m_isinstance : mg "isinstance" = none) (m_int : mg "int" = none) (m_bool : mg "bool" = none) : Callee P w K mg base CX0 (k + 1) "is_count" 1 f_is_count := by
  have sc := sc_is_count
  refine ⟨f, fd, ["thing"], Fun.okD F sc rfl fun cdv A outer s H E hr => ?_, m, F.kp, b⟩
  exact (ds_one (ds_ret (de_and (de_callB cd_isinst rfl m_isinstance (by decide +kernel) (da_cons (de_var 0) (da_cons (de_ty rfl m_int (by decide +kernel)) da_nil))) (de_and (de_not (de_callB cd_isinst rfl m_isinstance (by decide +kernel) (da_cons (de_var 0) (da_cons (de_ty rfl m_bool (by decide +kernel)) da_nil)))) (de_one (de_cmp od_ge (de_var 0) de_int (nomark _)))))))
/-! ### is_counted -/
abbrev st_is_counted : Stmt := topS 2
abbrev N_is_counted : List Str := ["thing", "k", "counts", "count"]
theorem sc_is_counted : FnScope N_is_counted ["thing"] (defScope st_is_counted) := ⟨rfl, rfl, rfl, by decide +kernel, rfl, by decide +kernel, by decide +kernel⟩
def d_is_counted : DS := (sSeq (sIf (bOr (bNot (dTst (dCall oIsInst (aCons (dVar 0) (aCons (dC (.ty "tuple")) aNil))))) (bOr (dTst (dBin oNe (dCall oLen (aCons (dVar 0) aNil)) (dC (.int 2)))) (bOr (bNot (dTst (dCallF f_is_count (aCons (dBin oIx (dVar 0) (dC (.int 0))) aNil)))) (bNot (dTst (dCall oIsInst (aCons (dBin oIx (dVar 0) (dC (.int 1))) (aCons (dC (.ty "tuple")) aNil))))))))
  (sRet (dC (.bl false)))
  sNil)
  (sSeq (sAsg (dVar 0) (gTupD 2 (gsCons (gN 1) (gsCons (gN 2) gsNil))))
  (sSeq (sIf (bOr (bNot (dTst (dChain oLe oLe (dC (.int 1)) (dVar 1) (dC (.int 5))))) (bNot (dTst (dChain oLe oLe (dC (.int 1)) (dCall oLen (aCons (dVar 2) aNil)) (dC (.int 5))))))
  (sRet (dC (.bl false)))
  sNil)
  (sRet (dCall oAll (aCons (dComp (iSeq (dVar 2)) (gN 3) [3] bYes (dAnd (dCallF f_is_count (aCons (dVar 3) aNil)) (dBin oLe (dVar 3) (dC (.int 4))))) aNil))))))
def f_is_counted : Fn := dFun0 4 d_is_counted
theorem ok_is_counted {k : Nat} {f : Addr} {fd : FuncData} (F : Fun K "is_counted" "is_counted" st_is_counted f fd) (b : Binds K fd ["thing"] []) (m : mg "is_counted" = some (.ref f)) (c_is_count : Callee P w K mg base CX0 k "is_count" 1 f_is_count) (m_isinstance : mg "isinstance" = none) (m_tuple : mg "tuple" = none) (m_len : mg "len" = none) (m_all : mg "all" = none) : Callee P w K mg base CX0 (k + 1) "is_counted" 1 f_is_counted := by
  have sc := sc_is_counted
  refine ⟨f, fd, ["thing"], Fun.okD F sc rfl fun cdv A outer s H E hr => ?_, m, F.kp, b⟩
  exact (ds_cons (ds_if (PW.pt (dw_or (dt_not (dt_val (de_callB cd_isinst rfl m_isinstance (by decide +kernel) (da_cons (de_var 0) (da_cons (de_ty rfl m_tuple (by decide +kernel)) da_nil))))) (dw_or (dt_cmp (od_ne hr.units) (de_callB cd_len rfl m_len PySem.boot_len (da_cons (de_var 0) da_nil)) de_int (nomark _)) (dw_or (dt_not (dt_val (de_callC c_is_count hr thru0 (an_cons (de_ix xd_ix (de_var 0) de_int (fun _ _ => rfl)) an_nil)))) (dw_or1 (dt_not (dt_val (de_callB cd_isinst rfl m_isinstance (by decide +kernel) (da_cons (de_ix xd_ix (de_var 0) de_int (fun _ _ => rfl)) (da_cons (de_ty rfl m_tuple (by decide +kernel)) da_nil))))))))))
  (ds_one (ds_ret de_bl))
  ds_nil)
  (ds_cons (ds_asg (de_var 0) (dg_tup (by rfl) (dgs_cons (dg_name 1 sc.nd) (dgs_cons (dg_name 2 sc.nd) dgs_nil))))
  (ds_cons (ds_if (PW.pt (dw_or (dt_not (dt_chain od_le od_le de_int (de_var 1) de_int)) (dw_or1 (dt_not (dt_chain od_le od_le de_int (de_callB cd_len rfl m_len PySem.boot_len (da_cons (de_var 2) da_nil)) de_int)))))
  (ds_one (ds_ret de_bl))
  ds_nil)
  (ds_one (ds_ret (de_callB (cd_all (by rfl)) rfl m_all (by decide +kernel) (da_cons (de_comp (own := [("count", 3)]) (by rfl) sc.nd (di_seq (de_var 2)) (blkOk_by (own := [("count", 3)]) (N := N_is_counted) (sc := defScope st_is_counted) (by decide +kernel)) (by decide) (fun _ _ _ _ _ => (dg_name 3 sc.nd)) (fun _ _ _ _ _ => dts_nil) (fun _ _ _ _ _ => (de_and (de_callC c_is_count hr thru0 (an_cons (de_var 3) an_nil)) (de_one (de_cmp od_le (de_var 3) de_int (nomark _)))))) da_nil)))))))
/-! ### _law_e_mixed -/
abbrev st__law_e_mixed : Stmt := topS 4
abbrev N__law_e_mixed : List Str := ["cell", "place", "one", "two", "more"]
theorem sc__law_e_mixed : FnScope N__law_e_mixed ["cell", "place"] (defScope st__law_e_mixed) := ⟨rfl, rfl, rfl, by decide +kernel, rfl, by decide +kernel, by decide +kernel⟩
def d__law_e_mixed : DS := (sSeq (sIf (dTst (dBin oGe (dVar 0) (dBin oPow (dC (.int 10)) (dC (.int 18)))))
  (sRet (dVar 0))
  sNil)
  (sSeq (sSet 2 (dBin oMod (dBin oAdd (dBin oAdd (dBin oMul (dBin oMod (dVar 0) (dC (.int 1000000009))) (dC (.int 75353))) (dBin oMul (dVar 1) (dC (.int 4099)))) (dC (.int 17))) (dC (.int 1999999973))))
  (sSeq (sSet 3 (dBin oMod (dBin oAdd (dBin oAdd (dBin oAdd (dBin oMul (dVar 2) (dVar 2)) (dBin oMul (dC (.int 8191)) (dVar 2))) (dBin oMul (dC (.int 3)) (dVar 1))) (dC (.int 1))) (dC (.int 2147483549))))
  (sSeq (sSet 4 (dBin oMod (dBin oAdd (dBin oAdd (dBin oMul (dVar 3) (dVar 3)) (dBin oMul (dC (.int 127)) (dVar 1))) (dVar 2)) (dC (.int 2147483497))))
  (sRet (dBin oAdd (dBin oMul (dVar 3) (dC (.int 2147483497))) (dVar 4)))))))
def f__law_e_mixed : Fn := dFun0 5 d__law_e_mixed
theorem ok__law_e_mixed {k : Nat} {f : Addr} {fd : FuncData} (F : Fun K "_law_e_mixed" "_law_e_mixed" st__law_e_mixed f fd) (b : Binds K fd ["cell", "place"] []) (m : mg "_law_e_mixed" = some (.ref f)) : Callee P w K mg base CX0 (k + 1) "_law_e_mixed" 2 f__law_e_mixed := by
  have sc := sc__law_e_mixed
  refine ⟨f, fd, ["cell", "place"], Fun.okD F sc rfl fun cdv A outer s H E hr => ?_, m, F.kp, b⟩
  exact (ds_cons (ds_if (dt_cmp od_ge (de_var 0) (de_bin od_pow de_int de_int) (nomark _))
  (ds_one (ds_ret (de_var 0)))
  ds_nil)
  (ds_cons (ds_set 2 sc.nd (de_bin od_mod (de_bin od_add (de_bin od_add (de_bin od_mul (de_bin od_mod (de_var 0) de_int) de_int) (de_bin od_mul (de_var 1) de_int)) de_int) de_int))
  (ds_cons (ds_set 3 sc.nd (de_bin od_mod (de_bin od_add (de_bin od_add (de_bin od_add (de_bin od_mul (de_var 2) (de_var 2)) (de_bin od_mul de_int (de_var 2))) (de_bin od_mul de_int (de_var 1))) de_int) de_int))
  (ds_cons (ds_set 4 sc.nd (de_bin od_mod (de_bin od_add (de_bin od_add (de_bin od_mul (de_var 3) (de_var 3)) (de_bin od_mul de_int (de_var 1))) (de_var 2)) de_int))
  (ds_one (ds_ret (de_bin od_add (de_bin od_mul (de_var 3) de_int) (de_var 4))))))))
/-! ### _law_e_pick -/
abbrev st__law_e_pick : Stmt := topS 5
abbrev N__law_e_pick : List Str := ["deck", "many", "place", "cell", "picked"]
theorem sc__law_e_pick : FnScope N__law_e_pick ["deck", "many"] (defScope st__law_e_pick) := ⟨rfl, rfl, rfl, by decide +kernel, rfl, by decide +kernel, by decide +kernel⟩
def d__law_e_pick : DS := (sSeq (sIf (dTst (dBin oLt (dBin oIx (dVar 0) (dC (.int 2))) (dVar 1)))
  (sSeq (sSet 2 (dBin oIx (dVar 0) (dC (.int 1))))
  (sSeq (sSet 3 (dBin oMul (dC (.int 7)) (dVar 2)))
  (sSeq (sIf (dTst (dBin oLt (dVar 2) (dCall oLen (aCons (dBin oIx (dVar 0) (dC (.int 0))) aNil))))
  (sSet 3 (dBin oIx (dBin oIx (dVar 0) (dC (.int 0))) (dVar 2)))
  (sIf (dTst (dBin oGt (dCall oLen (aCons (dBin oIx (dVar 0) (dC (.int 0))) aNil)) (dC (.int 0))))
  (sSet 3 (dBin oAdd (dBin oMod (dBin oIx (dBin oIx (dVar 0) (dC (.int 0))) (dBin oMod (dBin oMul (dVar 2) (dC (.int 11))) (dCall oLen (aCons (dBin oIx (dVar 0) (dC (.int 0))) aNil)))) (dC (.int 999999937))) (dBin oMul (dVar 2) (dC (.int 3000000)))))
  sNil))
  (sSeq (sPutL (dVar 0) (dC (.int 1)) (dBin oAdd (dVar 2) (dC (.int 1))))
  (sPutL (dVar 0) (dC (.int 2)) (dCallF f__law_e_mixed (aCons (dVar 3) (aCons (dVar 2) aNil))))))))
  sNil)
  (sSeq (sSet 4 (dBin oMod (dBin oIx (dVar 0) (dC (.int 2))) (dVar 1)))
  (sSeq (sPutL (dVar 0) (dC (.int 2)) (dBin oDiv (dBin oIx (dVar 0) (dC (.int 2))) (dVar 1)))
  (sRet (dVar 4)))))
def f__law_e_pick : Fn := dFun0 5 d__law_e_pick
theorem ok__law_e_pick {k : Nat} {f : Addr} {fd : FuncData} (F : Fun K "_law_e_pick" "_law_e_pick" st__law_e_pick f fd) (b : Binds K fd ["deck", "many"] []) (m : mg "_law_e_pick" = some (.ref f)) (c__law_e_mixed : Callee P w K mg base CX0 k "_law_e_mixed" 2 f__law_e_mixed) (m_len : mg "len" = none) : Callee P w K mg base CX0 (k + 1) "_law_e_pick" 2 f__law_e_pick := by
  have sc := sc__law_e_pick
  refine ⟨f, fd, ["deck", "many"], Fun.okD F sc rfl fun cdv A outer s H E hr => ?_, m, F.kp, b⟩
  exact (ds_cons (ds_if (dt_cmp od_lt (de_ix xd_ix (de_var 0) de_int (fun _ _ => rfl)) (de_var 1) (nomark _))
  (ds_cons (ds_set 2 sc.nd (de_ix xd_ix (de_var 0) de_int (fun _ _ => rfl)))
  (ds_cons (ds_set 3 sc.nd (de_bin od_mul de_int (de_var 2)))
  (ds_cons (ds_if (dt_cmp od_lt (de_var 2) (de_callB cd_len rfl m_len PySem.boot_len (da_cons (de_ix xd_ix (de_var 0) de_int (fun _ _ => rfl)) da_nil)) (nomark _))
  (ds_one (ds_set 3 sc.nd (de_ix xd_ix (de_ix xd_ix (de_var 0) de_int (fun _ _ => rfl)) (de_var 2) (fun _ _ => rfl))))
  (ds_one (ds_if (dt_cmp od_gt (de_callB cd_len rfl m_len PySem.boot_len (da_cons (de_ix xd_ix (de_var 0) de_int (fun _ _ => rfl)) da_nil)) de_int (nomark _))
  (ds_one (ds_set 3 sc.nd (de_bin od_add (de_bin od_mod (de_ix xd_ix (de_ix xd_ix (de_var 0) de_int (fun _ _ => rfl)) (de_bin od_mod (de_bin od_mul (de_var 2) de_int) (de_callB cd_len rfl m_len PySem.boot_len (da_cons (de_ix xd_ix (de_var 0) de_int (fun _ _ => rfl)) da_nil))) (fun _ _ => rfl)) de_int) (de_bin od_mul (de_var 2) de_int))))
  ds_nil)))
  (ds_cons (ds_putL (de_var 0) de_int (de_bin od_add (de_var 2) de_int))
  (ds_one (ds_putL (de_var 0) de_int (de_callC c__law_e_mixed hr thru0 (an_cons (de_var 3) (an_cons (de_var 2) an_nil)))))))))
  ds_nil)
  (ds_cons (ds_set 4 sc.nd (de_bin od_mod (de_ix xd_ix (de_var 0) de_int (fun _ _ => rfl)) (de_var 1)))
  (ds_cons (ds_putL (de_var 0) de_int (de_bin od_div (de_ix xd_ix (de_var 0) de_int (fun _ _ => rfl)) (de_var 1)))
  (ds_one (ds_ret (de_var 4))))))
/-! ### _law_e_meeting -/
abbrev st__law_e_meeting : Stmt := topS 6
abbrev N__law_e_meeting : List Str := ["deck", "great", "many", "most", "counts", "hand"]
theorem sc__law_e_meeting : FnScope N__law_e_meeting ["deck", "great"] (defScope st__law_e_meeting) := ⟨rfl, rfl, rfl, by decide +kernel, rfl, by decide +kernel, by decide +kernel⟩
def d__law_e_meeting : DS := (sSeq (sSet 2 (dBin oAdd (dC (.int 1)) (dCallF f__law_e_pick (aCons (dVar 0) (aCons (dC (.int 5)) aNil)))))
  (sSeq (sSet 3 (dC (.int 4)))
  (sSeq (sIf (bNot (dTst (dVar 1)))
  (sSet 3 (dBin oIx (dLst (aCons (dC (.int 4)) (aCons (dC (.int 4)) (aCons (dC (.int 4)) (aCons (dC (.int 2)) (aCons (dC (.int 1)) aNil)))))) (dBin oSub (dVar 2) (dC (.int 1)))))
  sNil)
  (sSeq (sSet 4 (dComp (iRange1 (aCons (dVar 2) aNil)) (gN 5) [5] bYes (dCallF f__law_e_pick (aCons (dVar 0) (aCons (dBin oAdd (dVar 3) (dC (.int 1))) aNil)))))
  (sSeq (sIf (dTst (dBin oEq (dCallF f__law_e_pick (aCons (dVar 0) (aCons (dC (.int 3)) aNil))) (dC (.int 0))))
  (sSet 4 (dComp (iRange1 (aCons (dVar 2) aNil)) (gN 5) [5] bYes (dBin oIx (dVar 4) (dC (.int 0)))))
  sNil)
  (sRet (dTup (aCons (dBin oAdd (dC (.int 1)) (dCallF f__law_e_pick (aCons (dVar 0) (aCons (dC (.int 5)) aNil)))) (aCons (dCall oTuple (aCons (dVar 4) aNil)) aNil)))))))))
def f__law_e_meeting : Fn := dFun0 6 d__law_e_meeting
theorem ok__law_e_meeting {k : Nat} {f : Addr} {fd : FuncData} (F : Fun K "_law_e_meeting" "_law_e_meeting" st__law_e_meeting f fd) (b : Binds K fd ["deck", "great"] []) (m : mg "_law_e_meeting" = some (.ref f)) (c__law_e_pick : Callee P w K mg base CX0 k "_law_e_pick" 2 f__law_e_pick) (m_range : mg "range" = none) (m_tuple : mg "tuple" = none) : Callee P w K mg base CX0 (k + 1) "_law_e_meeting" 2 f__law_e_meeting := by
  have sc := sc__law_e_meeting
  refine ⟨f, fd, ["deck", "great"], Fun.okD F sc rfl fun cdv A outer s H E hr => ?_, m, F.kp, b⟩
  exact (ds_cons (ds_set 2 sc.nd (de_bin od_add de_int (de_callC c__law_e_pick hr thru0 (an_cons (de_var 0) (an_cons de_int an_nil)))))
  (ds_cons (ds_set 3 sc.nd de_int)
  (ds_cons (ds_if (dt_not (dt_val (de_var 1)))
  (ds_one (ds_set 3 sc.nd (de_ix xd_ix (de_lst (da_cons de_int (da_cons de_int (da_cons de_int (da_cons de_int (da_cons de_int da_nil)))))) (de_bin od_sub (de_var 2) de_int) (fun _ _ => rfl))))
  ds_nil)
  (ds_cons (ds_set 4 sc.nd (de_comp (own := [("hand", 5)]) (by rfl) sc.nd (di_range1 rfl m_range (da_cons (de_var 2) da_nil)) (blkOk_by (own := [("hand", 5)]) (N := N__law_e_meeting) (sc := defScope st__law_e_meeting) (by decide +kernel)) (by decide) (fun _ _ _ _ _ => (dg_name 5 sc.nd)) (fun _ _ _ _ _ => dts_nil) (fun _ _ _ _ _ => (de_callC c__law_e_pick hr thru0 (an_cons (de_var 0) (an_cons (de_bin od_add (de_var 3) de_int) an_nil))))))
  (ds_cons (ds_if (dt_cmp (od_eq hr.units) (de_callC c__law_e_pick hr thru0 (an_cons (de_var 0) (an_cons de_int an_nil))) de_int (nomark _))
  (ds_one (ds_set 4 sc.nd (de_comp (own := [("hand", 5)]) (by rfl) sc.nd (di_range1 rfl m_range (da_cons (de_var 2) da_nil)) (blkOk_by (own := [("hand", 5)]) (N := N__law_e_meeting) (sc := defScope st__law_e_meeting) (by decide +kernel)) (by decide) (fun _ _ _ _ _ => (dg_name 5 sc.nd)) (fun _ _ _ _ _ => dts_nil) (fun _ _ _ _ _ => (de_ix xd_ix (de_var 4) de_int (fun _ _ => rfl))))))
  ds_nil)
  (ds_one (ds_ret (de_tup (da_cons (de_bin od_add de_int (de_callC c__law_e_pick hr thru0 (an_cons (de_var 0) (an_cons de_int an_nil)))) (da_cons (de_callTy cd_tuple rfl m_tuple (by decide +kernel) (da_cons (de_var 4) da_nil)) da_nil))))))))))
/-! ### _law_e_spoilt -/
abbrev st__law_e_spoilt : Stmt := topS 7
abbrev N__law_e_spoilt : List Str := ["deck", "meeting", "k", "counts", "far", "at", "bad", "found"]
theorem sc__law_e_spoilt : FnScope N__law_e_spoilt ["deck", "meeting"] (defScope st__law_e_spoilt) := ⟨rfl, rfl, rfl, by decide +kernel, rfl, by decide +kernel, by decide +kernel⟩
def d__law_e_spoilt : DS := (sSeq (sAsg (dVar 1) (gTupD 2 (gsCons (gN 2) (gsCons (gN 3) gsNil))))
  (sSeq (sSet 4 (dCallF f__law_e_pick (aCons (dVar 0) (aCons (dBin oPow (dC (.int 10)) (dC (.int 20))) aNil))))
  (sSeq (sSet 5 (dCallF f__law_e_pick (aCons (dVar 0) (aCons (dCall oLen (aCons (dVar 3) aNil)) aNil))))
  (sSeq (sSet 6 (dBin oIx (dLst (aCons (dUn oNeg (dC (.int 1))) (aCons (dC (.int 5)) (aCons (dBin oAdd (dC (.int 5)) (dVar 4)) (aCons (dBin oSub (dUn oNeg (dC (.int 1))) (dVar 4)) (aCons (dC (.bl true)) (aCons (dC (.bl false)) (aCons (dC (.str "1")) (aCons (dC .non) (aCons (dTup (aCons (dC (.int 1)) aNil)) (aCons (dLst (aCons (dC (.int 1)) aNil)) aNil))))))))))) (dCallF f__law_e_pick (aCons (dVar 0) (aCons (dC (.int 10)) aNil)))))
  (sSeq (sSet 7 (dCell (aCons (dTup (aCons (dC (.int 0)) (aCons (dVar 3) aNil))) (aCons (dTup (aCons (dC (.int 6)) (aCons (dVar 3) aNil))) (aCons (dTup (aCons (dUn oNeg (dVar 2)) (aCons (dVar 3) aNil))) (aCons (dTup (aCons (dBin oAdd (dC (.int 6)) (dVar 4)) (aCons (dVar 3) aNil))) (aCons (dTup (aCons (dC (.bl true)) (aCons (dVar 3) aNil))) (aCons (dTup (aCons (dCall oStrC (aCons (dVar 2) aNil)) (aCons (dVar 3) aNil))) aNil))))))))
  (sSeq (sExpr (dAppend (dVar 7) (dTup (aCons (dC .non) (aCons (dVar 3) aNil)))))
  (sSeq (sSet 7 (dBin oAdd (dVar 7) (dLst (aCons (dTup (aCons (dVar 2) (aCons (dTup aNil) aNil))) (aCons (dTup (aCons (dVar 2) (aCons (dTup (aCons (dC (.int 1)) (aCons (dC (.int 1)) (aCons (dC (.int 1)) (aCons (dC (.int 1)) (aCons (dC (.int 1)) (aCons (dC (.int 1)) aNil))))))) aNil))) (aCons (dTup (aCons (dVar 2) (aCons (dCall oListC (aCons (dVar 3) aNil)) aNil))) (aCons (dTup (aCons (dVar 2) (aCons (dC .non) aNil))) (aCons (dTup (aCons (dVar 2) (aCons (dCall oSum (aCons (dVar 3) aNil)) aNil))) (aCons (dLst (aCons (dVar 2) (aCons (dVar 3) aNil))) aNil)))))))))
  (sSeq (sSet 7 (dBin oAdd (dVar 7) (dLst (aCons (dTup (aCons (dVar 2) aNil)) (aCons (dTup (aCons (dVar 2) (aCons (dVar 3) (aCons (dTup aNil) aNil)))) (aCons (dTup (aCons (dVar 3) (aCons (dVar 2) aNil))) (aCons (dTup (aCons (dVar 2) (aCons (dBin oAdd (dBin oAdd (dSl oSl (dVar 3) oNo (oSo (dVar 5))) (dTup (aCons (dVar 6) aNil))) (dSl oSl (dVar 3) (oSo (dBin oAdd (dVar 5) (dC (.int 1)))) oNo)) aNil))) (aCons (dTup (aCons (dVar 2) (aCons (dTup (aCons (dVar 3) aNil)) aNil))) aNil))))))))
  (sRet (dVar 7))))))))))
def f__law_e_spoilt : Fn := dFun0 8 d__law_e_spoilt
theorem ok__law_e_spoilt {k : Nat} {f : Addr} {fd : FuncData} (F : Fun K "_law_e_spoilt" "_law_e_spoilt" st__law_e_spoilt f fd) (b : Binds K fd ["deck", "meeting"] []) (m : mg "_law_e_spoilt" = some (.ref f)) (c__law_e_pick : Callee P w K mg base CX0 k "_law_e_pick" 2 f__law_e_pick) (m_len : mg "len" = none) (m_str : mg "str" = none) (m_sum : mg "sum" = none) (m_list : mg "list" = none) : Callee P w K mg base CX0 (k + 1) "_law_e_spoilt" 2 f__law_e_spoilt := by
  have sc := sc__law_e_spoilt
  refine ⟨f, fd, ["deck", "meeting"], Fun.okD F sc rfl fun cdv A outer s H E hr => ?_, m, F.kp, b⟩
  exact (ds_cons (ds_asg (de_var 1) (dg_tup (by rfl) (dgs_cons (dg_name 2 sc.nd) (dgs_cons (dg_name 3 sc.nd) dgs_nil))))
  (ds_cons (ds_set 4 sc.nd (de_callC c__law_e_pick hr thru0 (an_cons (de_var 0) (an_cons (de_bin od_pow de_int de_int) an_nil))))
  (ds_cons (ds_set 5 sc.nd (de_callC c__law_e_pick hr thru0 (an_cons (de_var 0) (an_cons (de_callB cd_len rfl m_len PySem.boot_len (da_cons (de_var 3) da_nil)) an_nil))))
  (ds_cons (ds_set 6 sc.nd (de_ix xd_ix (de_lst (da_cons (de_un ud_neg de_int) (da_cons de_int (da_cons (de_bin od_add de_int (de_var 4)) (da_cons (de_bin od_sub (de_un ud_neg de_int) (de_var 4)) (da_cons de_bl (da_cons de_bl (da_cons de_str (da_cons de_non (da_cons (de_tup (da_cons de_int da_nil)) (da_cons (de_lst (da_cons de_int da_nil)) da_nil))))))))))) (de_callC c__law_e_pick hr thru0 (an_cons (de_var 0) (an_cons de_int an_nil))) (fun _ _ => rfl)))
  (ds_cons (ds_set 7 sc.nd (de_cell (da_cons (de_tup (da_cons de_int (da_cons (de_var 3) da_nil))) (da_cons (de_tup (da_cons de_int (da_cons (de_var 3) da_nil))) (da_cons (de_tup (da_cons (de_un ud_neg (de_var 2)) (da_cons (de_var 3) da_nil))) (da_cons (de_tup (da_cons (de_bin od_add de_int (de_var 4)) (da_cons (de_var 3) da_nil))) (da_cons (de_tup (da_cons de_bl (da_cons (de_var 3) da_nil))) (da_cons (de_tup (da_cons (de_callTy cd_str rfl m_str (by decide +kernel) (da_cons (de_var 2) da_nil)) (da_cons (de_var 3) da_nil))) da_nil))))))))
  (ds_cons (ds_expr (de_append (pe_bm PySem.F.plainAttrs_list PySem.F.slot_list_append PySem.F.type_list_append mt_append (de_var 7) (pa_cons (de_tup (da_cons de_non (da_cons (de_var 3) da_nil))) pa_nil))))
  (ds_cons (ds_set 7 sc.nd (de_bin od_add (de_var 7) (de_lst (da_cons (de_tup (da_cons (de_var 2) (da_cons (de_tup da_nil) da_nil))) (da_cons (de_tup (da_cons (de_var 2) (da_cons (de_tup (da_cons de_int (da_cons de_int (da_cons de_int (da_cons de_int (da_cons de_int (da_cons de_int da_nil))))))) da_nil))) (da_cons (de_tup (da_cons (de_var 2) (da_cons (de_callTy cd_list rfl m_list (by decide +kernel) (da_cons (de_var 3) da_nil)) da_nil))) (da_cons (de_tup (da_cons (de_var 2) (da_cons de_non da_nil))) (da_cons (de_tup (da_cons (de_var 2) (da_cons (de_callB (cd_sum (by rfl)) rfl m_sum (by decide +kernel) (da_cons (de_var 3) da_nil)) da_nil))) (da_cons (de_lst (da_cons (de_var 2) (da_cons (de_var 3) da_nil))) da_nil)))))))))
  (ds_cons (ds_set 7 sc.nd (de_bin od_add (de_var 7) (de_lst (da_cons (de_tup (da_cons (de_var 2) da_nil)) (da_cons (de_tup (da_cons (de_var 2) (da_cons (de_var 3) (da_cons (de_tup da_nil) da_nil)))) (da_cons (de_tup (da_cons (de_var 3) (da_cons (de_var 2) da_nil))) (da_cons (de_tup (da_cons (de_var 2) (da_cons (de_bin od_add (de_bin od_add (de_slice sd_sl (de_var 3) do_no (do_so (de_var 5))) (de_tup (da_cons (de_var 6) da_nil))) (de_slice sd_sl (de_var 3) (do_so (de_bin od_add (de_var 5) de_int)) do_no)) da_nil))) (da_cons (de_tup (da_cons (de_var 2) (da_cons (de_tup (da_cons (de_var 3) da_nil)) da_nil))) da_nil))))))))
  (ds_one (ds_ret (de_var 7)))))))))))
/-! ### law -/
abbrev st_law : Stmt := topS 8
abbrev N_law : List Str := ["script", "deck", "k", "meeting", "turn", "thing"]
theorem sc_law : FnScope N_law ["script"] (defScope st_law) := ⟨rfl, rfl, rfl, by decide +kernel, rfl, by decide +kernel, by decide +kernel⟩
def d_law : DS := (sSeq (sSet 1 (dCell (aCons (dVar 0) (aCons (dC (.int 0)) (aCons (dC (.int 0)) aNil)))))
  (sSeq (sFor (iRange1 (aCons (dC (.int 6)) aNil)) (gN 2)
  (sSeq (sIf (bAnd (dTst (dBin oGt (dVar 2) (dC (.int 1)))) (dTst (dBin oGe (dBin oIx (dVar 1) (dC (.int 1))) (dCall oLen (aCons (dVar 0) aNil)))))
  (sFl .bk)
  sNil)
  (sSeq (sSet 3 (dCallF f__law_e_meeting (aCons (dVar 1) (aCons (dC (.bl true)) aNil))))
  (sSeq (sFor (iRange1 (aCons (dC (.int 2)) aNil)) (gN 4)
  (sIf (dTst (dBin oIsNot (dCallF f_is_counted (aCons (dVar 3) aNil)) (dC (.bl true))))
  (sRet (dC (.bl false)))
  sNil))
  (sFor (iSeq (dCallF f__law_e_spoilt (aCons (dVar 1) (aCons (dVar 3) aNil)))) (gN 5)
  (sIf (dTst (dBin oIsNot (dCallF f_is_counted (aCons (dVar 5) aNil)) (dC (.bl false))))
  (sRet (dC (.bl false)))
  sNil))))))
  (sSeq (sFor (iSeq (dLst (aCons (dC .non) (aCons (dC (.bl true)) (aCons (dC (.int 0)) (aCons (dC (.str "counted")) (aCons (dTup aNil) (aCons (dLst aNil) (aCons (dNewK) (aCons (dTup (aCons (dC (.int 1)) aNil)) (aCons (dTup (aCons (dC (.int 1)) (aCons (dC (.int 1)) aNil))) (aCons (dTup (aCons (dTup aNil) (aCons (dTup aNil) aNil))) (aCons (dTup (aCons (dC (.int 1)) (aCons (dTup (aCons (dC (.str "a")) aNil)) aNil))) aNil))))))))))))) (gN 5)
  (sIf (dTst (dBin oIsNot (dCallF f_is_counted (aCons (dVar 5) aNil)) (dC (.bl false))))
  (sRet (dC (.bl false)))
  sNil))
  (sRet (dAnd (dBin oIs (dCallF f_is_counted (aCons (dTup (aCons (dC (.int 1)) (aCons (dTup (aCons (dC (.int 0)) aNil)) aNil))) aNil)) (dC (.bl true))) (dBin oIs (dCallF f_is_counted (aCons (dTup (aCons (dC (.int 5)) (aCons (dTup (aCons (dC (.int 4)) (aCons (dC (.int 4)) (aCons (dC (.int 4)) (aCons (dC (.int 4)) (aCons (dC (.int 4)) aNil)))))) aNil))) aNil)) (dC (.bl true))))))))
def f_law : Fn := dFun0 6 d_law
theorem ok_law {k : Nat} {f : Addr} {fd : FuncData} (F : Fun K "law" "law" st_law f fd) (c__law_e_meeting : Callee P w K mg base CX0 k "_law_e_meeting" 2 f__law_e_meeting) (c_is_counted : Callee P w K mg base CX0 k "is_counted" 1 f_is_counted) (c__law_e_spoilt : Callee P w K mg base CX0 k "_law_e_spoilt" 2 f__law_e_spoilt) (m_range : mg "range" = none) (m_len : mg "len" = none) : FnOk P w K mg base CX0 (k + 1) f fd ["script"] (spD K mg 1 f_law) := by
  have sc := sc_law
  refine Fun.okD F sc rfl fun cdv A outer s H E hr => ?_
  exact (ds_cons (ds_set 1 sc.nd (de_cell (da_cons (de_var 0) (da_cons de_int (da_cons de_int da_nil)))))
  (ds_cons (ds_for PassesOwn.never (by rfl) (di_range1 rfl m_range (da_cons de_int da_nil)) (dg_name 2 sc.nd)
  (ds_cons (ds_if (PW.pt (dw_and (dt_cmp od_gt (de_var 2) de_int (nomark _)) (dw_and1 (dt_cmp od_ge (de_ix xd_ix (de_var 1) de_int (fun _ _ => rfl)) (de_callB cd_len rfl m_len PySem.boot_len (da_cons (de_var 0) da_nil)) (nomark _)))))
  (ds_one ds_break)
  ds_nil)
  (ds_cons (ds_set 3 sc.nd (de_callC c__law_e_meeting hr thru0 (an_cons (de_var 1) (an_cons de_bl an_nil))))
  (ds_cons (ds_for PassesOwn.never (by rfl) (di_range1 rfl m_range (da_cons de_int da_nil)) (dg_name 4 sc.nd)
  (ds_one (ds_if (dt_cmp od_isNot (de_callC c_is_counted hr thru0 (an_cons (de_var 3) an_nil)) de_bl (nomark _))
  (ds_one (ds_ret de_bl))
  ds_nil)))
  (ds_one (ds_for PassesOwn.never (by rfl) (di_seq (de_callC c__law_e_spoilt hr thru0 (an_cons (de_var 1) (an_cons (de_var 3) an_nil)))) (dg_name 5 sc.nd)
  (ds_one (ds_if (dt_cmp od_isNot (de_callC c_is_counted hr thru0 (an_cons (de_var 5) an_nil)) de_bl (nomark _))
  (ds_one (ds_ret de_bl))
  ds_nil))))))))
  (ds_cons (ds_for PassesOwn.never (by rfl) (di_seq (de_lst (da_cons de_non (da_cons de_bl (da_cons de_int (da_cons de_str (da_cons (de_tup da_nil) (da_cons (de_lst da_nil) (da_cons de_newK (da_cons (de_tup (da_cons de_int da_nil)) (da_cons (de_tup (da_cons de_int (da_cons de_int da_nil))) (da_cons (de_tup (da_cons (de_tup da_nil) (da_cons (de_tup da_nil) da_nil))) (da_cons (de_tup (da_cons de_int (da_cons (de_tup (da_cons de_str da_nil)) da_nil))) da_nil))))))))))))) (dg_name 5 sc.nd)
  (ds_one (ds_if (dt_cmp od_isNot (de_callC c_is_counted hr thru0 (an_cons (de_var 5) an_nil)) de_bl (nomark _))
  (ds_one (ds_ret de_bl))
  ds_nil)))
  (ds_one (ds_ret (de_and (de_cmp od_is (de_callC c_is_counted hr thru0 (an_cons (de_tup (da_cons de_int (da_cons (de_tup (da_cons de_int da_nil)) da_nil))) an_nil)) de_bl (nomark _)) (de_one (de_cmp od_is (de_callC c_is_counted hr thru0 (an_cons (de_tup (da_cons de_int (da_cons (de_tup (da_cons de_int (da_cons de_int (da_cons de_int (da_cons de_int (da_cons de_int da_nil)))))) da_nil))) an_nil)) de_bl (nomark _)))))))))
end
end G
end DL
end L2

set_option Elab.async false
set_option linter.all false
set_option maxRecDepth 100000
namespace L2
namespace DL
open PySem PySem.Spec PyProof.Rows
/-! ### the deck -/
def deckC (ns : List Int) (p q : Int) : Cell := .lst [.fz (ns.map D.int), .int p, .int q]
namespace G
theorem mixed_spec (cell place : Int) (S : Sto) (hp : 0 ≤ place) : ∃ x, 0 ≤ x ∧ f__law_e_mixed [.int cell, .int place] S = .ok (.int x) S := by
  have m1 : (0 : Int) < 1999999973 := by decide
  have m2 : (0 : Int) < 2147483549 := by decide
  have m3 : (0 : Int) < 2147483497 := by decide
  have m0 : (0 : Int) < 1000000009 := by decide
  by_cases hc : (1000000000000000000 : Int) ≤ cell
  · refine ⟨cell, by omega, fun0_rt (env := [some (.int cell), some (.int place), none, none, none]) ?_⟩
    have pw : oPow S (.int 10) (.int 18) = some (.int 1000000000000000000) := rfl
    simp only [d__law_e_mixed, sSeq, sIf, sRet, sSet, sExpr, sAsg, sFl, sNil, sFor, dBin, dC, dCall, dCallF, aCons, aNil, dTst, dNot, dAnd, dOr, bAnd, bOr, bNot, dChain, dUn, dTup, dLst, dCell, dIf, iSeq, iRange1, iRange2, dVar, gN, gTupD, gsCons, gsNil, dSl, oNo, oSo, asI, dComp, wipeE, Out.bind_ok, Out.bind_exc, Out.bind_bad, lift_some, lift_none, asB_bl, add_ii, sub_ii, neg_i, lt_ii, le_ii, gt_ii, ge_ii, eq_ii, ne_ii, eq_ss, ne_ss, isnot_bb, is_bb, is_non, isnot_non, ix_tupD, ix_lstD, ix_fzD, at_lit0, at_lit1, at_lit2, at_lit3, len_fz, len_lst, len_tup, itemsOf, List.map_cons, List.map_nil, List.length_cons, List.length_nil, List.getElem?_cons_zero, List.getElem?_cons_succ, List.set_cons_zero, List.set_cons_succ, List.cons_append, List.nil_append, List.replicate_succ, List.replicate_zero, Nat.reduceSub, Nat.reduceAdd, if_true, if_false, Bool.false_eq_true, Bool.true_eq_false, Bool.not_true, Bool.not_false, Option.bind_some, Option.map_some, Nat.zero_add, ite_true, ite_false, pw, decide_eq_true hc]
  · have pw : oPow S (.int 10) (.int 18) = some (.int 1000000000000000000) := rfl
    -- the letters
    obtain ⟨one, h1⟩ : ∃ one, one = (cell % 1000000009 * 75353 + place * 4099 + 17) % 1999999973 := ⟨_, rfl⟩
    obtain ⟨two, h2⟩ : ∃ two, two = (one * one + 8191 * one + 3 * place + 1) % 2147483549 := ⟨_, rfl⟩
    obtain ⟨more, h3⟩ : ∃ more, more = (two * two + 127 * place + one) % 2147483497 := ⟨_, rfl⟩
    have b1 : 0 ≤ one := by rw [h1]; exact Int.emod_nonneg _ (by decide)
    have c1 : one < 1999999973 := by rw [h1]; exact Int.emod_lt_of_pos _ m1
    have b2 : 0 ≤ two := by rw [h2]; exact Int.emod_nonneg _ (by decide)
    have c2 : two < 2147483549 := by rw [h2]; exact Int.emod_lt_of_pos _ m2
    have b3 : 0 ≤ more := by rw [h3]; exact Int.emod_nonneg _ (by decide)
    have x1 : ∀ z, oMul S (.int z) (.int 75353) = some (.int (z * 75353)) := fun z => mul_ii S (.inr (by decide))
    have x2 : oMul S (.int place) (.int 4099) = some (.int (place * 4099)) := mul_ii S (.inr (by decide))
    have x3 : oMul S (.int one) (.int one) = some (.int (one * one)) := mul_ii S (.inr (by omega))
    have x4 : oMul S (.int 8191) (.int one) = some (.int (8191 * one)) := mul_ii S (.inl (by decide))
    have x5 : oMul S (.int 3) (.int place) = some (.int (3 * place)) := mul_ii S (.inl (by decide))
    have x6 : oMul S (.int two) (.int two) = some (.int (two * two)) := mul_ii S (.inr (by omega))
    have x7 : oMul S (.int 127) (.int place) = some (.int (127 * place)) := mul_ii S (.inl (by decide))
    have x8 : oMul S (.int two) (.int 2147483497) = some (.int (two * 2147483497)) := mul_ii S (.inr (by decide))
    refine ⟨two * 2147483497 + more, by omega, fun0_rt (env := [some (.int cell), some (.int place), some (.int one), some (.int two), some (.int more)]) ?_⟩
    simp only [d__law_e_mixed, sSeq, sIf, sRet, sSet, sExpr, sAsg, sFl, sNil, sFor, dBin, dC, dCall, dCallF, aCons, aNil, dTst, dNot, dAnd, dOr, bAnd, bOr, bNot, dChain, dUn, dTup, dLst, dCell, dIf, iSeq, iRange1, iRange2, dVar, gN, gTupD, gsCons, gsNil, dSl, oNo, oSo, asI, dComp, wipeE, Out.bind_ok, Out.bind_exc, Out.bind_bad, lift_some, lift_none, asB_bl, add_ii, sub_ii, neg_i, lt_ii, le_ii, gt_ii, ge_ii, eq_ii, ne_ii, eq_ss, ne_ss, isnot_bb, is_bb, is_non, isnot_non, ix_tupD, ix_lstD, ix_fzD, at_lit0, at_lit1, at_lit2, at_lit3, len_fz, len_lst, len_tup, itemsOf, List.map_cons, List.map_nil, List.length_cons, List.length_nil, List.getElem?_cons_zero, List.getElem?_cons_succ, List.set_cons_zero, List.set_cons_succ, List.cons_append, List.nil_append, List.replicate_succ, List.replicate_zero, Nat.reduceSub, Nat.reduceAdd, if_true, if_false, Bool.false_eq_true, Bool.true_eq_false, Bool.not_true, Bool.not_false, Option.bind_some, Option.map_some, Nat.zero_add, ite_true, ite_false, pw, decide_eq_false hc, mod_ii S m0, mod_ii S m1, x1, x2, ← h1, x3, x4, x5, mod_ii S m2, ← h2, x6, x7, mod_ii S m3, ← h3, x8]
theorem pick_spec (ns : List Int) (n : Nat) (S : Sto) (p q many : Int) (hS : S[n]? = some (deckC ns p q)) (hp : 0 ≤ p) (hq : 0 ≤ q) (hm : 1 ≤ many) (hm2 : many < 2 ^ 80) :
    ∃ v p' q', 0 ≤ v ∧ v < many ∧ 0 ≤ p' ∧ 0 ≤ q' ∧ f__law_e_pick [.ref n, .int many] S = .ok (.int v) (S.set n (deckC ns p' q')) := by
  have m0 : (0 : Int) < 999999937 := by decide
  -- the second half: from a deck with a number
  have rest : ∀ (env : Ev) (T : Sto) (p' q' : Int), env[0]? = some (some (.ref n)) → env[1]? = some (some (.int many)) → 4 < env.length → T[n]? = some (deckC ns p' q') → 0 ≤ q' →
      ∃ env', (sSeq (sSet 4 (dBin oMod (dBin oIx (dVar 0) (dC (.int 2))) (dVar 1))) (sSeq (sPutL (dVar 0) (dC (.int 2)) (dBin oDiv (dBin oIx (dVar 0) (dC (.int 2))) (dVar 1))) (sRet (dVar 4)))) env T = .ok (.rt (.int (q' % many)), env') (T.set n (deckC ns p' (q' / many))) := by
    intro env T p' q' h0 h1 hl hT hq'
    refine ⟨env.set 4 (some (.int (q' % many))), (seq_nx (env' := env.set 4 (some (.int (q' % many)))) (S' := T) ?_).trans ((seq_nx (env' := env.set 4 (some (.int (q' % many)))) (S' := T.set n (deckC ns p' (q' / many))) ?_).trans ?_)⟩
    · simp only [sSeq, sIf, sRet, sSet, sExpr, sAsg, sFl, sNil, sFor, dBin, dC, dCall, dCallF, aCons, aNil, dTst, dNot, dAnd, dOr, bAnd, bOr, bNot, dChain, dUn, dTup, dLst, dCell, dIf, iSeq, iRange1, iRange2, dVar, gN, gTupD, gsCons, gsNil, dSl, oNo, oSo, asI, dComp, wipeE, Out.bind_ok, Out.bind_exc, Out.bind_bad, lift_some, lift_none, asB_bl, add_ii, sub_ii, neg_i, lt_ii, le_ii, gt_ii, ge_ii, eq_ii, ne_ii, eq_ss, ne_ss, isnot_bb, is_bb, is_non, isnot_non, ix_tupD, ix_lstD, ix_fzD, at_lit0, at_lit1, at_lit2, at_lit3, len_fz, len_lst, len_tup, itemsOf, List.map_cons, List.map_nil, List.length_cons, List.length_nil, List.getElem?_cons_zero, List.getElem?_cons_succ, List.set_cons_zero, List.set_cons_succ, List.cons_append, List.nil_append, List.replicate_succ, List.replicate_zero, Nat.reduceSub, Nat.reduceAdd, if_true, if_false, Bool.false_eq_true, Bool.true_eq_false, Bool.not_true, Bool.not_false, Option.bind_some, Option.map_some, Nat.zero_add, ite_true, ite_false, h0, h1, ix_refD hT, mod_ii T (show (0 : Int) < many by omega)]
    · refine (putL_ref (n := n) (ds := [.fz (ns.map D.int), .int p', .int q']) (y := .int (q' / many)) (k := 2) (j := 2) (S1 := T) (S2 := T) (S3 := T) ?_ ?_ rfl hT rfl).trans rfl
      · simp only [sSeq, sIf, sRet, sSet, sExpr, sAsg, sFl, sNil, sFor, dBin, dC, dCall, dCallF, aCons, aNil, dTst, dNot, dAnd, dOr, bAnd, bOr, bNot, dChain, dUn, dTup, dLst, dCell, dIf, iSeq, iRange1, iRange2, dVar, gN, gTupD, gsCons, gsNil, dSl, oNo, oSo, asI, dComp, wipeE, Out.bind_ok, Out.bind_exc, Out.bind_bad, lift_some, lift_none, asB_bl, add_ii, sub_ii, neg_i, lt_ii, le_ii, gt_ii, ge_ii, eq_ii, ne_ii, eq_ss, ne_ss, isnot_bb, is_bb, is_non, isnot_non, ix_tupD, ix_lstD, ix_fzD, at_lit0, at_lit1, at_lit2, at_lit3, len_fz, len_lst, len_tup, itemsOf, List.map_cons, List.map_nil, List.length_cons, List.length_nil, List.getElem?_cons_zero, List.getElem?_cons_succ, List.set_cons_zero, List.set_cons_succ, List.cons_append, List.nil_append, List.replicate_succ, List.replicate_zero, Nat.reduceSub, Nat.reduceAdd, if_true, if_false, Bool.false_eq_true, Bool.true_eq_false, Bool.not_true, Bool.not_false, Option.bind_some, Option.map_some, Nat.zero_add, ite_true, ite_false, List.getElem?_set_ne (show (4 : Nat) ≠ 0 by decide), List.getElem?_set_ne (show (4 : Nat) ≠ 1 by decide), h0, h1, ix_refD hT, div_ii T (show (0 : Int) < many by omega) hm2]
      · simp only [sSeq, sIf, sRet, sSet, sExpr, sAsg, sFl, sNil, sFor, dBin, dC, dCall, dCallF, aCons, aNil, dTst, dNot, dAnd, dOr, bAnd, bOr, bNot, dChain, dUn, dTup, dLst, dCell, dIf, iSeq, iRange1, iRange2, dVar, gN, gTupD, gsCons, gsNil, dSl, oNo, oSo, asI, dComp, wipeE, Out.bind_ok, Out.bind_exc, Out.bind_bad, lift_some, lift_none, asB_bl, add_ii, sub_ii, neg_i, lt_ii, le_ii, gt_ii, ge_ii, eq_ii, ne_ii, eq_ss, ne_ss, isnot_bb, is_bb, is_non, isnot_non, ix_tupD, ix_lstD, ix_fzD, at_lit0, at_lit1, at_lit2, at_lit3, len_fz, len_lst, len_tup, itemsOf, List.map_cons, List.map_nil, List.length_cons, List.length_nil, List.getElem?_cons_zero, List.getElem?_cons_succ, List.set_cons_zero, List.set_cons_succ, List.cons_append, List.nil_append, List.replicate_succ, List.replicate_zero, Nat.reduceSub, Nat.reduceAdd, if_true, if_false, Bool.false_eq_true, Bool.true_eq_false, Bool.not_true, Bool.not_false, Option.bind_some, Option.map_some, Nat.zero_add, ite_true, ite_false, List.getElem?_set_ne (show (4 : Nat) ≠ 0 by decide), h0]
    · simp only [sSeq, sIf, sRet, sSet, sExpr, sAsg, sFl, sNil, sFor, dBin, dC, dCall, dCallF, aCons, aNil, dTst, dNot, dAnd, dOr, bAnd, bOr, bNot, dChain, dUn, dTup, dLst, dCell, dIf, iSeq, iRange1, iRange2, dVar, gN, gTupD, gsCons, gsNil, dSl, oNo, oSo, asI, dComp, wipeE, Out.bind_ok, Out.bind_exc, Out.bind_bad, lift_some, lift_none, asB_bl, add_ii, sub_ii, neg_i, lt_ii, le_ii, gt_ii, ge_ii, eq_ii, ne_ii, eq_ss, ne_ss, isnot_bb, is_bb, is_non, isnot_non, ix_tupD, ix_lstD, ix_fzD, at_lit0, at_lit1, at_lit2, at_lit3, len_fz, len_lst, len_tup, itemsOf, List.map_cons, List.map_nil, List.length_cons, List.length_nil, List.getElem?_cons_zero, List.getElem?_cons_succ, List.set_cons_zero, List.set_cons_succ, List.cons_append, List.nil_append, List.replicate_succ, List.replicate_zero, Nat.reduceSub, Nat.reduceAdd, if_true, if_false, Bool.false_eq_true, Bool.true_eq_false, Bool.not_true, Bool.not_false, Option.bind_some, Option.map_some, Nat.zero_add, ite_true, ite_false, List.getElem?_set_self hl]
  by_cases hc : q < many
  · -- a new number is drawn
    have body : ∃ env' q', 0 ≤ q' ∧ env'[0]? = some (some (.ref n)) ∧ env'[1]? = some (some (.int many)) ∧ 4 < env'.length ∧
        (sSeq (sSet 2 (dBin oIx (dVar 0) (dC (.int 1))))
  (sSeq (sSet 3 (dBin oMul (dC (.int 7)) (dVar 2)))
  (sSeq (sIf (dTst (dBin oLt (dVar 2) (dCall oLen (aCons (dBin oIx (dVar 0) (dC (.int 0))) aNil))))
  (sSet 3 (dBin oIx (dBin oIx (dVar 0) (dC (.int 0))) (dVar 2)))
  (sIf (dTst (dBin oGt (dCall oLen (aCons (dBin oIx (dVar 0) (dC (.int 0))) aNil)) (dC (.int 0))))
  (sSet 3 (dBin oAdd (dBin oMod (dBin oIx (dBin oIx (dVar 0) (dC (.int 0))) (dBin oMod (dBin oMul (dVar 2) (dC (.int 11))) (dCall oLen (aCons (dBin oIx (dVar 0) (dC (.int 0))) aNil)))) (dC (.int 999999937))) (dBin oMul (dVar 2) (dC (.int 3000000)))))
  sNil))
  (sSeq (sPutL (dVar 0) (dC (.int 1)) (dBin oAdd (dVar 2) (dC (.int 1))))
  (sPutL (dVar 0) (dC (.int 2)) (dCallF f__law_e_mixed (aCons (dVar 3) (aCons (dVar 2) aNil)))))))) [some (.ref n), some (.int many), none, none, none] S = .ok (.nx, env') (S.set n (deckC ns (p + 1) q')) := by
      -- the cell
      have cell : ∃ c : Int, (sIf (dTst (dBin oLt (dVar 2) (dCall oLen (aCons (dBin oIx (dVar 0) (dC (.int 0))) aNil))))
  (sSet 3 (dBin oIx (dBin oIx (dVar 0) (dC (.int 0))) (dVar 2)))
  (sIf (dTst (dBin oGt (dCall oLen (aCons (dBin oIx (dVar 0) (dC (.int 0))) aNil)) (dC (.int 0))))
  (sSet 3 (dBin oAdd (dBin oMod (dBin oIx (dBin oIx (dVar 0) (dC (.int 0))) (dBin oMod (dBin oMul (dVar 2) (dC (.int 11))) (dCall oLen (aCons (dBin oIx (dVar 0) (dC (.int 0))) aNil)))) (dC (.int 999999937))) (dBin oMul (dVar 2) (dC (.int 3000000)))))
  sNil)) [some (.ref n), some (.int many), some (.int p), some (.int (7 * p)), none] S = .ok (.nx, [some (.ref n), some (.int many), some (.int p), some (.int c), none]) S := by
        have hlen : (ns.map D.int).length = ns.length := List.length_map _
        by_cases h1 : p < ns.length
        · refine ⟨ns[p.toNat]'(by omega), ?_⟩
          have e : atI (ns.map D.int) p = some (.int (ns[p.toNat]'(by omega))) := at_nat hp (by rw [List.getElem?_map, List.getElem?_eq_getElem (by omega)]; rfl)
          simp only [sSeq, sIf, sRet, sSet, sExpr, sAsg, sFl, sNil, sFor, dBin, dC, dCall, dCallF, aCons, aNil, dTst, dNot, dAnd, dOr, bAnd, bOr, bNot, dChain, dUn, dTup, dLst, dCell, dIf, iSeq, iRange1, iRange2, dVar, gN, gTupD, gsCons, gsNil, dSl, oNo, oSo, asI, dComp, wipeE, Out.bind_ok, Out.bind_exc, Out.bind_bad, lift_some, lift_none, asB_bl, add_ii, sub_ii, neg_i, lt_ii, le_ii, gt_ii, ge_ii, eq_ii, ne_ii, eq_ss, ne_ss, isnot_bb, is_bb, is_non, isnot_non, ix_tupD, ix_lstD, ix_fzD, at_lit0, at_lit1, at_lit2, at_lit3, len_fz, len_lst, len_tup, itemsOf, List.map_cons, List.map_nil, List.length_cons, List.length_nil, List.getElem?_cons_zero, List.getElem?_cons_succ, List.set_cons_zero, List.set_cons_succ, List.cons_append, List.nil_append, List.replicate_succ, List.replicate_zero, Nat.reduceSub, Nat.reduceAdd, if_true, if_false, Bool.false_eq_true, Bool.true_eq_false, Bool.not_true, Bool.not_false, Option.bind_some, Option.map_some, Nat.zero_add, ite_true, ite_false, ix_refD hS, hlen, decide_eq_true h1, e]
        · by_cases h2 : (0 : Int) < ns.length
          · have hb : 0 ≤ p * 11 % ns.length := Int.emod_nonneg _ (by omega)
            have hb2 : p * 11 % ns.length < ns.length := Int.emod_lt_of_pos _ h2
            refine ⟨ns[(p * 11 % ns.length).toNat]'(by omega) % 999999937 + p * 3000000, ?_⟩
            have e : atI (ns.map D.int) (p * 11 % ns.length) = some (.int (ns[(p * 11 % ns.length).toNat]'(by omega))) := at_nat hb (by rw [List.getElem?_map, List.getElem?_eq_getElem (by omega)]; rfl)
            simp only [sSeq, sIf, sRet, sSet, sExpr, sAsg, sFl, sNil, sFor, dBin, dC, dCall, dCallF, aCons, aNil, dTst, dNot, dAnd, dOr, bAnd, bOr, bNot, dChain, dUn, dTup, dLst, dCell, dIf, iSeq, iRange1, iRange2, dVar, gN, gTupD, gsCons, gsNil, dSl, oNo, oSo, asI, dComp, wipeE, Out.bind_ok, Out.bind_exc, Out.bind_bad, lift_some, lift_none, asB_bl, add_ii, sub_ii, neg_i, lt_ii, le_ii, gt_ii, ge_ii, eq_ii, ne_ii, eq_ss, ne_ss, isnot_bb, is_bb, is_non, isnot_non, ix_tupD, ix_lstD, ix_fzD, at_lit0, at_lit1, at_lit2, at_lit3, len_fz, len_lst, len_tup, itemsOf, List.map_cons, List.map_nil, List.length_cons, List.length_nil, List.getElem?_cons_zero, List.getElem?_cons_succ, List.set_cons_zero, List.set_cons_succ, List.cons_append, List.nil_append, List.replicate_succ, List.replicate_zero, Nat.reduceSub, Nat.reduceAdd, if_true, if_false, Bool.false_eq_true, Bool.true_eq_false, Bool.not_true, Bool.not_false, Option.bind_some, Option.map_some, Nat.zero_add, ite_true, ite_false, ix_refD hS, hlen, decide_eq_false h1, decide_eq_true h2, mul_ii S (i := p) (j := 11) (.inr (by decide)), mod_ii S h2, e, mod_ii S m0, mul_ii S (i := p) (j := 3000000) (.inr (by decide))]
          · exact ⟨7 * p, by simp only [sSeq, sIf, sRet, sSet, sExpr, sAsg, sFl, sNil, sFor, dBin, dC, dCall, dCallF, aCons, aNil, dTst, dNot, dAnd, dOr, bAnd, bOr, bNot, dChain, dUn, dTup, dLst, dCell, dIf, iSeq, iRange1, iRange2, dVar, gN, gTupD, gsCons, gsNil, dSl, oNo, oSo, asI, dComp, wipeE, Out.bind_ok, Out.bind_exc, Out.bind_bad, lift_some, lift_none, asB_bl, add_ii, sub_ii, neg_i, lt_ii, le_ii, gt_ii, ge_ii, eq_ii, ne_ii, eq_ss, ne_ss, isnot_bb, is_bb, is_non, isnot_non, ix_tupD, ix_lstD, ix_fzD, at_lit0, at_lit1, at_lit2, at_lit3, len_fz, len_lst, len_tup, itemsOf, List.map_cons, List.map_nil, List.length_cons, List.length_nil, List.getElem?_cons_zero, List.getElem?_cons_succ, List.set_cons_zero, List.set_cons_succ, List.cons_append, List.nil_append, List.replicate_succ, List.replicate_zero, Nat.reduceSub, Nat.reduceAdd, if_true, if_false, Bool.false_eq_true, Bool.true_eq_false, Bool.not_true, Bool.not_false, Option.bind_some, Option.map_some, Nat.zero_add, ite_true, ite_false, ix_refD hS, hlen, decide_eq_false h1, decide_eq_false h2]⟩
      obtain ⟨c, hcell⟩ := cell
      obtain ⟨x, hx, hmix⟩ := mixed_spec c p (S.set n (deckC ns (p + 1) q)) hp
      refine ⟨[some (.ref n), some (.int many), some (.int p), some (.int c), none], x, hx, rfl, rfl, by simp, ?_⟩
      refine (seq_nx (env' := [some (.ref n), some (.int many), some (.int p), none, none]) (S' := S) ?_).trans ?_
      · simp only [sSeq, sIf, sRet, sSet, sExpr, sAsg, sFl, sNil, sFor, dBin, dC, dCall, dCallF, aCons, aNil, dTst, dNot, dAnd, dOr, bAnd, bOr, bNot, dChain, dUn, dTup, dLst, dCell, dIf, iSeq, iRange1, iRange2, dVar, gN, gTupD, gsCons, gsNil, dSl, oNo, oSo, asI, dComp, wipeE, Out.bind_ok, Out.bind_exc, Out.bind_bad, lift_some, lift_none, asB_bl, add_ii, sub_ii, neg_i, lt_ii, le_ii, gt_ii, ge_ii, eq_ii, ne_ii, eq_ss, ne_ss, isnot_bb, is_bb, is_non, isnot_non, ix_tupD, ix_lstD, ix_fzD, at_lit0, at_lit1, at_lit2, at_lit3, len_fz, len_lst, len_tup, itemsOf, List.map_cons, List.map_nil, List.length_cons, List.length_nil, List.getElem?_cons_zero, List.getElem?_cons_succ, List.set_cons_zero, List.set_cons_succ, List.cons_append, List.nil_append, List.replicate_succ, List.replicate_zero, Nat.reduceSub, Nat.reduceAdd, if_true, if_false, Bool.false_eq_true, Bool.true_eq_false, Bool.not_true, Bool.not_false, Option.bind_some, Option.map_some, Nat.zero_add, ite_true, ite_false, ix_refD hS]
      refine (seq_nx (env' := [some (.ref n), some (.int many), some (.int p), some (.int (7 * p)), none]) (S' := S) ?_).trans ?_
      · simp only [sSeq, sIf, sRet, sSet, sExpr, sAsg, sFl, sNil, sFor, dBin, dC, dCall, dCallF, aCons, aNil, dTst, dNot, dAnd, dOr, bAnd, bOr, bNot, dChain, dUn, dTup, dLst, dCell, dIf, iSeq, iRange1, iRange2, dVar, gN, gTupD, gsCons, gsNil, dSl, oNo, oSo, asI, dComp, wipeE, Out.bind_ok, Out.bind_exc, Out.bind_bad, lift_some, lift_none, asB_bl, add_ii, sub_ii, neg_i, lt_ii, le_ii, gt_ii, ge_ii, eq_ii, ne_ii, eq_ss, ne_ss, isnot_bb, is_bb, is_non, isnot_non, ix_tupD, ix_lstD, ix_fzD, at_lit0, at_lit1, at_lit2, at_lit3, len_fz, len_lst, len_tup, itemsOf, List.map_cons, List.map_nil, List.length_cons, List.length_nil, List.getElem?_cons_zero, List.getElem?_cons_succ, List.set_cons_zero, List.set_cons_succ, List.cons_append, List.nil_append, List.replicate_succ, List.replicate_zero, Nat.reduceSub, Nat.reduceAdd, if_true, if_false, Bool.false_eq_true, Bool.true_eq_false, Bool.not_true, Bool.not_false, Option.bind_some, Option.map_some, Nat.zero_add, ite_true, ite_false, mul_ii S (i := 7) (j := p) (.inl (by decide))]
      refine (seq_nx hcell).trans ?_
      refine (seq_nx (env' := [some (.ref n), some (.int many), some (.int p), some (.int c), none]) (S' := S.set n (deckC ns (p + 1) q)) ?_).trans ?_
      · exact (putL_ref (n := n) (ds := [.fz (ns.map D.int), .int p, .int q]) (y := .int (p + 1)) (k := 1) (j := 1) (S1 := S) (S2 := S) (S3 := S) rfl rfl rfl hS rfl).trans rfl
      · refine (putL_ref (n := n) (ds := [.fz (ns.map D.int), .int (p + 1), .int q]) (y := .int x) (k := 2) (j := 2) (S1 := S.set n (deckC ns (p + 1) q)) (S2 := S.set n (deckC ns (p + 1) q)) (S3 := S.set n (deckC ns (p + 1) q)) ?_ rfl rfl (set_get hS) rfl).trans ?_
        · simp only [sSeq, sIf, sRet, sSet, sExpr, sAsg, sFl, sNil, sFor, dBin, dC, dCall, dCallF, aCons, aNil, dTst, dNot, dAnd, dOr, bAnd, bOr, bNot, dChain, dUn, dTup, dLst, dCell, dIf, iSeq, iRange1, iRange2, dVar, gN, gTupD, gsCons, gsNil, dSl, oNo, oSo, asI, dComp, wipeE, Out.bind_ok, Out.bind_exc, Out.bind_bad, lift_some, lift_none, asB_bl, add_ii, sub_ii, neg_i, lt_ii, le_ii, gt_ii, ge_ii, eq_ii, ne_ii, eq_ss, ne_ss, isnot_bb, is_bb, is_non, isnot_non, ix_tupD, ix_lstD, ix_fzD, at_lit0, at_lit1, at_lit2, at_lit3, len_fz, len_lst, len_tup, itemsOf, List.map_cons, List.map_nil, List.length_cons, List.length_nil, List.getElem?_cons_zero, List.getElem?_cons_succ, List.set_cons_zero, List.set_cons_succ, List.cons_append, List.nil_append, List.replicate_succ, List.replicate_zero, Nat.reduceSub, Nat.reduceAdd, if_true, if_false, Bool.false_eq_true, Bool.true_eq_false, Bool.not_true, Bool.not_false, Option.bind_some, Option.map_some, Nat.zero_add, ite_true, ite_false, hmix]
        · rw [set_set]; rfl
    obtain ⟨env', q', hq', h0, h1, hl, hb⟩ := body
    obtain ⟨env2, hr⟩ := rest env' (S.set n (deckC ns (p + 1) q')) (p + 1) q' h0 h1 hl (set_get hS) hq'
    rw [set_set] at hr
    refine ⟨q' % many, p + 1, q' / many, Int.emod_nonneg _ (by omega), Int.emod_lt_of_pos _ (by omega), by omega, Int.ediv_nonneg hq' (by omega), fun0_rt (env := env2) ?_⟩
    unfold d__law_e_pick
    refine (seq_nx (env' := env') (S' := S.set n (deckC ns (p + 1) q')) ((if_t (S' := S) ?_).trans hb)).trans hr
    simp only [sSeq, sIf, sRet, sSet, sExpr, sAsg, sFl, sNil, sFor, dBin, dC, dCall, dCallF, aCons, aNil, dTst, dNot, dAnd, dOr, bAnd, bOr, bNot, dChain, dUn, dTup, dLst, dCell, dIf, iSeq, iRange1, iRange2, dVar, gN, gTupD, gsCons, gsNil, dSl, oNo, oSo, asI, dComp, wipeE, Out.bind_ok, Out.bind_exc, Out.bind_bad, lift_some, lift_none, asB_bl, add_ii, sub_ii, neg_i, lt_ii, le_ii, gt_ii, ge_ii, eq_ii, ne_ii, eq_ss, ne_ss, isnot_bb, is_bb, is_non, isnot_non, ix_tupD, ix_lstD, ix_fzD, at_lit0, at_lit1, at_lit2, at_lit3, len_fz, len_lst, len_tup, itemsOf, List.map_cons, List.map_nil, List.length_cons, List.length_nil, List.getElem?_cons_zero, List.getElem?_cons_succ, List.set_cons_zero, List.set_cons_succ, List.cons_append, List.nil_append, List.replicate_succ, List.replicate_zero, Nat.reduceSub, Nat.reduceAdd, if_true, if_false, Bool.false_eq_true, Bool.true_eq_false, Bool.not_true, Bool.not_false, Option.bind_some, Option.map_some, Nat.zero_add, ite_true, ite_false, ix_refD hS, decide_eq_true hc]
  · obtain ⟨env2, hr⟩ := rest [some (.ref n), some (.int many), none, none, none] S p q rfl rfl (by simp) hS hq
    refine ⟨q % many, p, q / many, Int.emod_nonneg _ (by omega), Int.emod_lt_of_pos _ (by omega), hp, Int.ediv_nonneg hq (by omega), fun0_rt (env := env2) ?_⟩
    unfold d__law_e_pick
    refine (seq_nx (env' := [some (.ref n), some (.int many), none, none, none]) (S' := S) ((if_f (S' := S) ?_).trans rfl)).trans hr
    simp only [sSeq, sIf, sRet, sSet, sExpr, sAsg, sFl, sNil, sFor, dBin, dC, dCall, dCallF, aCons, aNil, dTst, dNot, dAnd, dOr, bAnd, bOr, bNot, dChain, dUn, dTup, dLst, dCell, dIf, iSeq, iRange1, iRange2, dVar, gN, gTupD, gsCons, gsNil, dSl, oNo, oSo, asI, dComp, wipeE, Out.bind_ok, Out.bind_exc, Out.bind_bad, lift_some, lift_none, asB_bl, add_ii, sub_ii, neg_i, lt_ii, le_ii, gt_ii, ge_ii, eq_ii, ne_ii, eq_ss, ne_ss, isnot_bb, is_bb, is_non, isnot_non, ix_tupD, ix_lstD, ix_fzD, at_lit0, at_lit1, at_lit2, at_lit3, len_fz, len_lst, len_tup, itemsOf, List.map_cons, List.map_nil, List.length_cons, List.length_nil, List.getElem?_cons_zero, List.getElem?_cons_succ, List.set_cons_zero, List.set_cons_succ, List.cons_append, List.nil_append, List.replicate_succ, List.replicate_zero, Nat.reduceSub, Nat.reduceAdd, if_true, if_false, Bool.false_eq_true, Bool.true_eq_false, Bool.not_true, Bool.not_false, Option.bind_some, Option.map_some, Nat.zero_add, ite_true, ite_false, ix_refD hS, decide_eq_false hc]
theorem ints_of_all {P : Int → Prop} : ∀ ys : List D, (∀ y ∈ ys, ∃ c, P c ∧ y = .int c) → ∃ cs : List Int, ys = cs.map D.int ∧ ∀ c ∈ cs, P c
  | [], _ => ⟨[], rfl, fun _ h => by cases h⟩
  | y :: ys, h => by
    obtain ⟨c, hc, e⟩ := h y List.mem_cons_self
    obtain ⟨cs, e2, h2⟩ := ints_of_all ys fun y hy => h y (List.mem_cons_of_mem _ hy)
    refine ⟨c :: cs, by rw [e, e2]; rfl, fun z hz => ?_⟩
    rcases List.mem_cons.mp hz with q | q
    · rw [q]; exact hc
    · exact h2 z q
theorem rng1_int {j : Int} (h0 : 0 ≤ j) (h : j < 2 ^ 62) : rng1 [.int j] = some (rngL 0 j.toNat) := by
  unfold rng1
  dsimp only
  rw [if_pos]
  unfold in62
  rw [Bool.and_eq_true, decide_eq_true_eq, decide_eq_true_eq]
  omega
/-- what a deck may be behind some draws -/
def DeckS (ns : List Int) (n : Nat) (S S' : Sto) : Prop := ∃ p q, 0 ≤ p ∧ 0 ≤ q ∧ S' = S.set n (deckC ns p q)
theorem DeckS.pick {ns : List Int} {n : Nat} {S S' : Sto} {c : Cell} (hc : S[n]? = some c) (h : DeckS ns n S S') {many : Int} (hm : 1 ≤ many) (hm2 : many < 2 ^ 80) : ∃ v S2, 0 ≤ v ∧ v < many ∧ f__law_e_pick [.ref n, .int many] S' = .ok (.int v) S2 ∧ DeckS ns n S S2 := by
  obtain ⟨p, q, hp, hq, e⟩ := h
  subst e
  obtain ⟨v, p', q', h1, h2, h3, h4, e⟩ := pick_spec ns n (S.set n (deckC ns p q)) p q many (set_get hc) hp hq hm hm2
  rw [set_set] at e
  exact ⟨v, _, h1, h2, e, p', q', h3, h4, rfl⟩
def capN (m : Int) : Int := if m ≤ 3 then 4 else if m = 4 then 2 else 1
theorem meeting_spec (ns : List Int) (n : Nat) (S S0 : Sto) (c : Cell) (hc : S[n]? = some c) (hS : DeckS ns n S S0) (great : Bool) :
    ∃ (k : Int) (cs : List Int) (S' : Sto), f__law_e_meeting [.ref n, .bl great] S0 = .ok (.tup [.int k, .tup (cs.map D.int)]) S' ∧ DeckS ns n S S' ∧ 1 ≤ k ∧ k ≤ 5 ∧ 1 ≤ cs.length ∧ cs.length ≤ 5 ∧ ∀ z ∈ cs, 0 ≤ z ∧ z ≤ if great then 4 else capN cs.length := by
  obtain ⟨v1, S1, a1, b1, e1, hS1⟩ := hS.pick hc (many := 5) (by decide) (by decide)
  obtain ⟨many, hmany⟩ : ∃ many, many = 1 + v1 := ⟨_, rfl⟩
  obtain ⟨most, hmost⟩ : ∃ most : Int, most = if great then 4 else capN many := ⟨_, rfl⟩
  have hm1 : 1 ≤ most ∧ most ≤ 4 := by
    rw [hmost]
    unfold capN
    cases great <;> simp only [if_true, if_false, Bool.false_eq_true] <;> (try split) <;> (try split) <;> omega
  -- the counts drawn
  obtain ⟨ys, S2, e2, hS2, hl, hP⟩ := compGo_inv (g := gN 5) (env := [some (.ref n), some (.bl great), some (.int many), some (.int most), none, none]) (te := dCallF f__law_e_pick (aCons (dVar 0) (aCons (dBin oAdd (dVar 3) (dC (.int 1))) aNil)))
    (DeckS ns n S) (fun y => ∃ c, (0 ≤ c ∧ c ≤ most) ∧ y = .int c) (rngL 0 many.toNat) [] S1 hS1 (fun d _ T hT => by
      obtain ⟨v, T2, a, b, e, hT2⟩ := hT.pick hc (many := most + 1) (by omega) (by omega)
      exact ⟨_, .int v, T2, rfl, by simp only [sSeq, sIf, sRet, sSet, sExpr, sAsg, sFl, sNil, sFor, dBin, dC, dCall, dCallF, aCons, aNil, dTst, dNot, dAnd, dOr, bAnd, bOr, bNot, dChain, dUn, dTup, dLst, dCell, dIf, iSeq, iRange1, iRange2, dVar, gN, gTupD, gsCons, gsNil, dSl, oNo, oSo, asI, dComp, wipeE, Out.bind_ok, Out.bind_exc, Out.bind_bad, lift_some, lift_none, asB_bl, add_ii, sub_ii, neg_i, lt_ii, le_ii, gt_ii, ge_ii, eq_ii, ne_ii, eq_ss, ne_ss, isnot_bb, is_bb, is_non, isnot_non, ix_tupD, ix_lstD, ix_fzD, at_lit0, at_lit1, at_lit2, at_lit3, len_fz, len_lst, len_tup, itemsOf, List.map_cons, List.map_nil, List.length_cons, List.length_nil, List.getElem?_cons_zero, List.getElem?_cons_succ, List.set_cons_zero, List.set_cons_succ, List.cons_append, List.nil_append, List.replicate_succ, List.replicate_zero, Nat.reduceSub, Nat.reduceAdd, if_true, if_false, Bool.false_eq_true, Bool.true_eq_false, Bool.not_true, Bool.not_false, Option.bind_some, Option.map_some, Nat.zero_add, ite_true, ite_false, e], hT2, v, ⟨a, by omega⟩, rfl⟩) (by rw [rng_len, List.length_nil, sizeLine_eq]; omega)
  rw [rng_len] at hl
  obtain ⟨cs, ecs, hcs⟩ := ints_of_all ys hP
  have hcl : cs.length = many.toNat := by rw [← hl, ecs, List.length_map]
  rw [List.nil_append, ecs] at e2
  obtain ⟨v3, S3, a3, b3, e3, hS3⟩ := hS2.pick hc (many := 3) (by decide) (by decide)
  -- all alike, or as drawn
  have alike : ∃ cs2 : List Int, cs2.length = cs.length ∧ (∀ z ∈ cs2, 0 ≤ z ∧ z ≤ most) ∧ (sIf (dTst (dBin oEq (dCallF f__law_e_pick (aCons (dVar 0) (aCons (dC (.int 3)) aNil))) (dC (.int 0))))
  (sSet 4 (dComp (iRange1 (aCons (dVar 2) aNil)) (gN 5) [5] bYes (dBin oIx (dVar 4) (dC (.int 0)))))
  sNil) [some (.ref n), some (.bl great), some (.int many), some (.int most), some (.lst (cs.map D.int)), none] S2 = .ok (.nx, [some (.ref n), some (.bl great), some (.int many), some (.int most), some (.lst (cs2.map D.int)), none]) S3 := by
    by_cases h0 : v3 = 0
    · obtain ⟨z, r, ez⟩ : ∃ z r, cs = z :: r := by
        cases cs with
        | nil => simp at hcl; omega
        | cons z r => exact ⟨z, r, rfl⟩
      refine ⟨List.replicate many.toNat z, by rw [List.length_replicate, hcl], fun x hx => by rw [List.eq_of_mem_replicate hx]; exact hcs z (by rw [ez]; exact List.mem_cons_self), ?_⟩
      have em := compGo_map (g := gN 5) (env := [some (.ref n), some (.bl great), some (.int many), some (.int most), some (.lst (cs.map D.int)), none]) (te := dBin oIx (dVar 4) (dC (.int 0))) (S := S3) (fun _ => .int z) (rngL 0 many.toNat) [] (fun d _ => ⟨_, rfl, by simp only [sSeq, sIf, sRet, sSet, sExpr, sAsg, sFl, sNil, sFor, dBin, dC, dCall, dCallF, aCons, aNil, dTst, dNot, dAnd, dOr, bAnd, bOr, bNot, dChain, dUn, dTup, dLst, dCell, dIf, iSeq, iRange1, iRange2, dVar, gN, gTupD, gsCons, gsNil, dSl, oNo, oSo, asI, dComp, wipeE, Out.bind_ok, Out.bind_exc, Out.bind_bad, lift_some, lift_none, asB_bl, add_ii, sub_ii, neg_i, lt_ii, le_ii, gt_ii, ge_ii, eq_ii, ne_ii, eq_ss, ne_ss, isnot_bb, is_bb, is_non, isnot_non, ix_tupD, ix_lstD, ix_fzD, at_lit0, at_lit1, at_lit2, at_lit3, len_fz, len_lst, len_tup, itemsOf, List.map_cons, List.map_nil, List.length_cons, List.length_nil, List.getElem?_cons_zero, List.getElem?_cons_succ, List.set_cons_zero, List.set_cons_succ, List.cons_append, List.nil_append, List.replicate_succ, List.replicate_zero, Nat.reduceSub, Nat.reduceAdd, if_true, if_false, Bool.false_eq_true, Bool.true_eq_false, Bool.not_true, Bool.not_false, Option.bind_some, Option.map_some, Nat.zero_add, ite_true, ite_false, ez]⟩) (by rw [rng_len, List.length_nil, sizeLine_eq]; omega)
      have emap : (rngL 0 many.toNat).map (fun _ => D.int z) = (List.replicate many.toNat z).map D.int := by
        rw [List.map_replicate]
        unfold rngL
        rw [List.map_map]
        exact List.eq_replicate_iff.mpr ⟨by rw [List.length_map, List.length_range], fun b hb => by
          obtain ⟨x, _, e⟩ := List.mem_map.mp hb
          exact e.symm⟩
      rw [List.nil_append, emap] at em
      simp only [sSeq, sIf, sRet, sSet, sExpr, sAsg, sFl, sNil, sFor, dBin, dC, dCall, dCallF, aCons, aNil, dTst, dNot, dAnd, dOr, bAnd, bOr, bNot, dChain, dUn, dTup, dLst, dCell, dIf, iSeq, iRange1, iRange2, dVar, gN, gTupD, gsCons, gsNil, dSl, oNo, oSo, asI, dComp, wipeE, Out.bind_ok, Out.bind_exc, Out.bind_bad, lift_some, lift_none, asB_bl, add_ii, sub_ii, neg_i, lt_ii, le_ii, gt_ii, ge_ii, eq_ii, ne_ii, eq_ss, ne_ss, isnot_bb, is_bb, is_non, isnot_non, ix_tupD, ix_lstD, ix_fzD, at_lit0, at_lit1, at_lit2, at_lit3, len_fz, len_lst, len_tup, itemsOf, List.map_cons, List.map_nil, List.length_cons, List.length_nil, List.getElem?_cons_zero, List.getElem?_cons_succ, List.set_cons_zero, List.set_cons_succ, List.cons_append, List.nil_append, List.replicate_succ, List.replicate_zero, Nat.reduceSub, Nat.reduceAdd, if_true, if_false, Bool.false_eq_true, Bool.true_eq_false, Bool.not_true, Bool.not_false, Option.bind_some, Option.map_some, Nat.zero_add, ite_true, ite_false, e3, decide_eq_true h0, rng1_int (show 0 ≤ many by omega) (show many < 2 ^ 62 by omega), em]
    · exact ⟨cs, rfl, hcs, by simp only [sSeq, sIf, sRet, sSet, sExpr, sAsg, sFl, sNil, sFor, dBin, dC, dCall, dCallF, aCons, aNil, dTst, dNot, dAnd, dOr, bAnd, bOr, bNot, dChain, dUn, dTup, dLst, dCell, dIf, iSeq, iRange1, iRange2, dVar, gN, gTupD, gsCons, gsNil, dSl, oNo, oSo, asI, dComp, wipeE, Out.bind_ok, Out.bind_exc, Out.bind_bad, lift_some, lift_none, asB_bl, add_ii, sub_ii, neg_i, lt_ii, le_ii, gt_ii, ge_ii, eq_ii, ne_ii, eq_ss, ne_ss, isnot_bb, is_bb, is_non, isnot_non, ix_tupD, ix_lstD, ix_fzD, at_lit0, at_lit1, at_lit2, at_lit3, len_fz, len_lst, len_tup, itemsOf, List.map_cons, List.map_nil, List.length_cons, List.length_nil, List.getElem?_cons_zero, List.getElem?_cons_succ, List.set_cons_zero, List.set_cons_succ, List.cons_append, List.nil_append, List.replicate_succ, List.replicate_zero, Nat.reduceSub, Nat.reduceAdd, if_true, if_false, Bool.false_eq_true, Bool.true_eq_false, Bool.not_true, Bool.not_false, Option.bind_some, Option.map_some, Nat.zero_add, ite_true, ite_false, e3, decide_eq_false h0]⟩
  obtain ⟨cs2, hl2, hcs2, e4⟩ := alike
  obtain ⟨v5, S5, a5, b5, e5, hS5⟩ := hS3.pick hc (many := 5) (by decide) (by decide)
  refine ⟨1 + v5, cs2, S5, fun0_rt (env := [some (.ref n), some (.bl great), some (.int many), some (.int most), some (.lst (cs2.map D.int)), none]) ?_, hS5, by omega, by omega, by omega, by omega, fun z hz => ?_⟩
  · unfold d__law_e_meeting
    refine (seq_nx (env' := [some (.ref n), some (.bl great), some (.int many), none, none, none]) (S' := S1) (by simp only [sSeq, sIf, sRet, sSet, sExpr, sAsg, sFl, sNil, sFor, dBin, dC, dCall, dCallF, aCons, aNil, dTst, dNot, dAnd, dOr, bAnd, bOr, bNot, dChain, dUn, dTup, dLst, dCell, dIf, iSeq, iRange1, iRange2, dVar, gN, gTupD, gsCons, gsNil, dSl, oNo, oSo, asI, dComp, wipeE, Out.bind_ok, Out.bind_exc, Out.bind_bad, lift_some, lift_none, asB_bl, add_ii, sub_ii, neg_i, lt_ii, le_ii, gt_ii, ge_ii, eq_ii, ne_ii, eq_ss, ne_ss, isnot_bb, is_bb, is_non, isnot_non, ix_tupD, ix_lstD, ix_fzD, at_lit0, at_lit1, at_lit2, at_lit3, len_fz, len_lst, len_tup, itemsOf, List.map_cons, List.map_nil, List.length_cons, List.length_nil, List.getElem?_cons_zero, List.getElem?_cons_succ, List.set_cons_zero, List.set_cons_succ, List.cons_append, List.nil_append, List.replicate_succ, List.replicate_zero, Nat.reduceSub, Nat.reduceAdd, if_true, if_false, Bool.false_eq_true, Bool.true_eq_false, Bool.not_true, Bool.not_false, Option.bind_some, Option.map_some, Nat.zero_add, ite_true, ite_false, e1, hmany])).trans ?_
    refine (seq_nx (env' := [some (.ref n), some (.bl great), some (.int many), some (.int 4), none, none]) (S' := S1) rfl).trans ?_
    refine (seq_nx (env' := [some (.ref n), some (.bl great), some (.int many), some (.int most), none, none]) (S' := S1) ?_).trans ?_
    · cases great with
      | true => simp only [sSeq, sIf, sRet, sSet, sExpr, sAsg, sFl, sNil, sFor, dBin, dC, dCall, dCallF, aCons, aNil, dTst, dNot, dAnd, dOr, bAnd, bOr, bNot, dChain, dUn, dTup, dLst, dCell, dIf, iSeq, iRange1, iRange2, dVar, gN, gTupD, gsCons, gsNil, dSl, oNo, oSo, asI, dComp, wipeE, Out.bind_ok, Out.bind_exc, Out.bind_bad, lift_some, lift_none, asB_bl, add_ii, sub_ii, neg_i, lt_ii, le_ii, gt_ii, ge_ii, eq_ii, ne_ii, eq_ss, ne_ss, isnot_bb, is_bb, is_non, isnot_non, ix_tupD, ix_lstD, ix_fzD, at_lit0, at_lit1, at_lit2, at_lit3, len_fz, len_lst, len_tup, itemsOf, List.map_cons, List.map_nil, List.length_cons, List.length_nil, List.getElem?_cons_zero, List.getElem?_cons_succ, List.set_cons_zero, List.set_cons_succ, List.cons_append, List.nil_append, List.replicate_succ, List.replicate_zero, Nat.reduceSub, Nat.reduceAdd, if_true, if_false, Bool.false_eq_true, Bool.true_eq_false, Bool.not_true, Bool.not_false, Option.bind_some, Option.map_some, Nat.zero_add, ite_true, ite_false, hmost]
      | false =>
        have hv : v1 = 0 ∨ v1 = 1 ∨ v1 = 2 ∨ v1 = 3 ∨ v1 = 4 := by omega
        have tab : atI [D.int 4, D.int 4, D.int 4, D.int 2, D.int 1] (many - 1) = some (.int most) := by
          rw [hmost, hmany]
          rcases hv with e | e | e | e | e <;> (subst e; rfl)
        simp only [sSeq, sIf, sRet, sSet, sExpr, sAsg, sFl, sNil, sFor, dBin, dC, dCall, dCallF, aCons, aNil, dTst, dNot, dAnd, dOr, bAnd, bOr, bNot, dChain, dUn, dTup, dLst, dCell, dIf, iSeq, iRange1, iRange2, dVar, gN, gTupD, gsCons, gsNil, dSl, oNo, oSo, asI, dComp, wipeE, Out.bind_ok, Out.bind_exc, Out.bind_bad, lift_some, lift_none, asB_bl, add_ii, sub_ii, neg_i, lt_ii, le_ii, gt_ii, ge_ii, eq_ii, ne_ii, eq_ss, ne_ss, isnot_bb, is_bb, is_non, isnot_non, ix_tupD, ix_lstD, ix_fzD, at_lit0, at_lit1, at_lit2, at_lit3, len_fz, len_lst, len_tup, itemsOf, List.map_cons, List.map_nil, List.length_cons, List.length_nil, List.getElem?_cons_zero, List.getElem?_cons_succ, List.set_cons_zero, List.set_cons_succ, List.cons_append, List.nil_append, List.replicate_succ, List.replicate_zero, Nat.reduceSub, Nat.reduceAdd, if_true, if_false, Bool.false_eq_true, Bool.true_eq_false, Bool.not_true, Bool.not_false, Option.bind_some, Option.map_some, Nat.zero_add, ite_true, ite_false, if_pos (show (5 : Nat) ≤ sizeLine by decide), tab]
    refine (seq_nx (env' := [some (.ref n), some (.bl great), some (.int many), some (.int most), some (.lst (cs.map D.int)), none]) (S' := S2) (by simp only [sSeq, sIf, sRet, sSet, sExpr, sAsg, sFl, sNil, sFor, dBin, dC, dCall, dCallF, aCons, aNil, dTst, dNot, dAnd, dOr, bAnd, bOr, bNot, dChain, dUn, dTup, dLst, dCell, dIf, iSeq, iRange1, iRange2, dVar, gN, gTupD, gsCons, gsNil, dSl, oNo, oSo, asI, dComp, wipeE, Out.bind_ok, Out.bind_exc, Out.bind_bad, lift_some, lift_none, asB_bl, add_ii, sub_ii, neg_i, lt_ii, le_ii, gt_ii, ge_ii, eq_ii, ne_ii, eq_ss, ne_ss, isnot_bb, is_bb, is_non, isnot_non, ix_tupD, ix_lstD, ix_fzD, at_lit0, at_lit1, at_lit2, at_lit3, len_fz, len_lst, len_tup, itemsOf, List.map_cons, List.map_nil, List.length_cons, List.length_nil, List.getElem?_cons_zero, List.getElem?_cons_succ, List.set_cons_zero, List.set_cons_succ, List.cons_append, List.nil_append, List.replicate_succ, List.replicate_zero, Nat.reduceSub, Nat.reduceAdd, if_true, if_false, Bool.false_eq_true, Bool.true_eq_false, Bool.not_true, Bool.not_false, Option.bind_some, Option.map_some, Nat.zero_add, ite_true, ite_false, rng1_int (show 0 ≤ many by omega) (show many < 2 ^ 62 by omega), e2])).trans ?_
    refine (seq_nx e4).trans ?_
    have et : ∀ T, oTuple T [.lst (cs2.map D.int)] = some (.tup (cs2.map D.int)) := fun _ => rfl
    simp only [sSeq, sIf, sRet, sSet, sExpr, sAsg, sFl, sNil, sFor, dBin, dC, dCall, dCallF, aCons, aNil, dTst, dNot, dAnd, dOr, bAnd, bOr, bNot, dChain, dUn, dTup, dLst, dCell, dIf, iSeq, iRange1, iRange2, dVar, gN, gTupD, gsCons, gsNil, dSl, oNo, oSo, asI, dComp, wipeE, Out.bind_ok, Out.bind_exc, Out.bind_bad, lift_some, lift_none, asB_bl, add_ii, sub_ii, neg_i, lt_ii, le_ii, gt_ii, ge_ii, eq_ii, ne_ii, eq_ss, ne_ss, isnot_bb, is_bb, is_non, isnot_non, ix_tupD, ix_lstD, ix_fzD, at_lit0, at_lit1, at_lit2, at_lit3, len_fz, len_lst, len_tup, itemsOf, List.map_cons, List.map_nil, List.length_cons, List.length_nil, List.getElem?_cons_zero, List.getElem?_cons_succ, List.set_cons_zero, List.set_cons_succ, List.cons_append, List.nil_append, List.replicate_succ, List.replicate_zero, Nat.reduceSub, Nat.reduceAdd, if_true, if_false, Bool.false_eq_true, Bool.true_eq_false, Bool.not_true, Bool.not_false, Option.bind_some, Option.map_some, Nat.zero_add, ite_true, ite_false, e5, et, if_pos (show (2 : Nat) ≤ sizeLine by decide)]
  · have h := hcs2 z hz
    rw [hmost] at h
    have em : (many : Int) = cs2.length := by omega
    rw [em] at h
    exact h
end G
end DL
end L2

set_option Elab.async false
set_option linter.all false
set_option maxRecDepth 100000
namespace L2
namespace DL
open PySem PySem.Spec PyProof.Rows
/-! ### what is a counted meeting -/
mutual
def typedD (S : Sto) : D → Bool
  | .tup ds => typedL S ds
  | .lst ds => typedL S ds
  | .fz ds => typedL S ds
  | .ref n => (tyN S (.ref n)).isSome
  | .ty _ => false
  | _ => true
def typedL (S : Sto) : List D → Bool
  | [] => true
  | d :: ds => typedD S d && typedL S ds
end
theorem typed_mem {S : Sto} : ∀ {ds : List D} {d : D}, typedL S ds = true → d ∈ ds → typedD S d = true
  | [], _, _, h => by cases h
  | x :: xs, d, h, hm => by
    unfold typedL at h
    rw [Bool.and_eq_true] at h
    rcases List.mem_cons.mp hm with e | e
    · rw [e]; exact h.1
    · exact typed_mem h.2 e
theorem typed_ty {S : Sto} {d : D} (h : typedD S d = true) : ∃ T, tyN S d = some T ∧ (T = "NoneType" ∨ T = "bool" ∨ T = "int" ∨ T = "str" ∨ T = "tuple" ∨ T = "list" ∨ T = "dict") := by
  cases d with
  | ref n =>
    have h' : (tyN S (.ref n)).isSome = true := h
    obtain ⟨T, e⟩ := Option.isSome_iff_exists.mp h'
    refine ⟨T, e, ?_⟩
    unfold tyN at e
    dsimp only at e
    split at e <;> cases e <;> simp
  | ty n => cases h
  | _ => exact ⟨_, rfl, by simp⟩
def isCnt : D → Bool
  | .int i => decide (0 ≤ i)
  | _ => false
def leD : D → Bool
  | .int i => decide (i ≤ 4)
  | _ => false
def isCounted : D → Bool
  | .tup [x, .tup cs] => isCnt x && ((match x with | .int k => decide (1 ≤ k) && decide (k ≤ 5) | _ => false) && (decide (1 ≤ cs.length) && decide (cs.length ≤ 5)) && cs.all fun c => isCnt c && leD c)
  | _ => false
theorem kii : kitB "int" "int" = some true := by decide +kernel
theorem kbi : kitB "bool" "int" = some true := by decide +kernel
theorem kni : kitB "NoneType" "int" = some false := by decide +kernel
theorem ksi : kitB "str" "int" = some false := by decide +kernel
theorem kti : kitB "tuple" "int" = some false := by decide +kernel
theorem kli : kitB "list" "int" = some false := by decide +kernel
theorem kdi : kitB "dict" "int" = some false := by decide +kernel
theorem kib : kitB "int" "bool" = some false := by decide +kernel
theorem kbb : kitB "bool" "bool" = some true := by decide +kernel
theorem kit' : kitB "int" "tuple" = some false := by decide +kernel
theorem kbt : kitB "bool" "tuple" = some false := by decide +kernel
theorem knt : kitB "NoneType" "tuple" = some false := by decide +kernel
theorem kst : kitB "str" "tuple" = some false := by decide +kernel
theorem ktt : kitB "tuple" "tuple" = some true := by decide +kernel
theorem klt : kitB "list" "tuple" = some false := by decide +kernel
theorem kdt : kitB "dict" "tuple" = some false := by decide +kernel
theorem inst_of {S : Sto} {d : D} {T c : String} {b : Bool} (h : tyN S d = some T) (k : kitB T c = some b) : oIsInst S [d, .ty c] = some (.bl b) := by
  unfold oIsInst
  dsimp only
  rw [h]
  dsimp only
  rw [k]
  rfl
/-- isinstance(d, tuple) -/
def isTupD : D → Bool
  | .tup _ => true
  | _ => false
theorem inst_tup {S : Sto} {d : D} (h : typedD S d = true) : oIsInst S [d, .ty "tuple"] = some (.bl (isTupD d)) := by
  obtain ⟨T, e, hT⟩ := typed_ty h
  cases d with
  | tup ds => exact inst_of rfl ktt
  | ty n => cases h
  | ref n =>
    have hT2 : T = "list" ∨ T = "dict" := by
      unfold tyN at e
      dsimp only at e
      split at e <;> cases e <;> simp
    rcases hT2 with q | q
    · subst q; exact inst_of e klt
    · subst q; exact inst_of e kdt
  | non => exact inst_of rfl knt
  | bl b => exact inst_of rfl kbt
  | int b => exact inst_of rfl kit'
  | str b => exact inst_of rfl kst
  | lst b => exact inst_of rfl klt
  | fz b => exact inst_of rfl klt
namespace G
theorem count_spec {S : Sto} {d : D} (h : typedD S d = true) : f_is_count [d] S = .ok (.bl (isCnt d)) S := by
  obtain ⟨T, e, hT⟩ := typed_ty h
  refine fun0_rt (env := [some d]) ?_
  cases d with
  | int i => 
    have i1 : oIsInst S [.int i, .ty "int"] = some (.bl true) := inst_of rfl kii
    have i2 : oIsInst S [.int i, .ty "bool"] = some (.bl false) := inst_of rfl kib
    simp only [d_is_count, sSeq, sIf, sRet, sSet, sExpr, sAsg, sFl, sNil, sFor, dBin, dC, dCall, dCallF, aCons, aNil, dTst, dNot, dAnd, dOr, bAnd, bOr, bNot, dChain, dUn, dTup, dLst, dCell, dIf, iSeq, iRange1, iRange2, dVar, gN, gTupD, gsCons, gsNil, dSl, oNo, oSo, asI, dComp, wipeE, Out.bind_ok, Out.bind_exc, Out.bind_bad, lift_some, lift_none, asB_bl, add_ii, sub_ii, neg_i, lt_ii, le_ii, gt_ii, ge_ii, eq_ii, ne_ii, eq_ss, ne_ss, isnot_bb, is_bb, is_non, isnot_non, ix_tupD, ix_lstD, ix_fzD, at_lit0, at_lit1, at_lit2, at_lit3, len_fz, len_lst, len_tup, itemsOf, List.map_cons, List.map_nil, List.length_cons, List.length_nil, List.getElem?_cons_zero, List.getElem?_cons_succ, List.set_cons_zero, List.set_cons_succ, List.cons_append, List.nil_append, List.replicate_succ, List.replicate_zero, Nat.reduceSub, Nat.reduceAdd, if_true, if_false, Bool.false_eq_true, Bool.true_eq_false, Bool.not_true, Bool.not_false, Option.bind_some, Option.map_some, Nat.zero_add, ite_true, ite_false, i1, i2, isCnt]
  | bl b =>
    have i1 : oIsInst S [.bl b, .ty "int"] = some (.bl true) := inst_of rfl kbi
    have i2 : oIsInst S [.bl b, .ty "bool"] = some (.bl true) := inst_of rfl kbb
    simp only [d_is_count, sSeq, sIf, sRet, sSet, sExpr, sAsg, sFl, sNil, sFor, dBin, dC, dCall, dCallF, aCons, aNil, dTst, dNot, dAnd, dOr, bAnd, bOr, bNot, dChain, dUn, dTup, dLst, dCell, dIf, iSeq, iRange1, iRange2, dVar, gN, gTupD, gsCons, gsNil, dSl, oNo, oSo, asI, dComp, wipeE, Out.bind_ok, Out.bind_exc, Out.bind_bad, lift_some, lift_none, asB_bl, add_ii, sub_ii, neg_i, lt_ii, le_ii, gt_ii, ge_ii, eq_ii, ne_ii, eq_ss, ne_ss, isnot_bb, is_bb, is_non, isnot_non, ix_tupD, ix_lstD, ix_fzD, at_lit0, at_lit1, at_lit2, at_lit3, len_fz, len_lst, len_tup, itemsOf, List.map_cons, List.map_nil, List.length_cons, List.length_nil, List.getElem?_cons_zero, List.getElem?_cons_succ, List.set_cons_zero, List.set_cons_succ, List.cons_append, List.nil_append, List.replicate_succ, List.replicate_zero, Nat.reduceSub, Nat.reduceAdd, if_true, if_false, Bool.false_eq_true, Bool.true_eq_false, Bool.not_true, Bool.not_false, Option.bind_some, Option.map_some, Nat.zero_add, ite_true, ite_false, i1, i2, isCnt]
  | ty n => cases h
  | ref n =>
    have hT2 : T = "list" ∨ T = "dict" := by
      unfold tyN at e
      dsimp only at e
      split at e <;> cases e <;> simp
    have i1 : oIsInst S [.ref n, .ty "int"] = some (.bl false) := by
      rcases hT2 with q | q
      · subst q; exact inst_of e kli
      · subst q; exact inst_of e kdi
    simp only [d_is_count, sSeq, sIf, sRet, sSet, sExpr, sAsg, sFl, sNil, sFor, dBin, dC, dCall, dCallF, aCons, aNil, dTst, dNot, dAnd, dOr, bAnd, bOr, bNot, dChain, dUn, dTup, dLst, dCell, dIf, iSeq, iRange1, iRange2, dVar, gN, gTupD, gsCons, gsNil, dSl, oNo, oSo, asI, dComp, wipeE, Out.bind_ok, Out.bind_exc, Out.bind_bad, lift_some, lift_none, asB_bl, add_ii, sub_ii, neg_i, lt_ii, le_ii, gt_ii, ge_ii, eq_ii, ne_ii, eq_ss, ne_ss, isnot_bb, is_bb, is_non, isnot_non, ix_tupD, ix_lstD, ix_fzD, at_lit0, at_lit1, at_lit2, at_lit3, len_fz, len_lst, len_tup, itemsOf, List.map_cons, List.map_nil, List.length_cons, List.length_nil, List.getElem?_cons_zero, List.getElem?_cons_succ, List.set_cons_zero, List.set_cons_succ, List.cons_append, List.nil_append, List.replicate_succ, List.replicate_zero, Nat.reduceSub, Nat.reduceAdd, if_true, if_false, Bool.false_eq_true, Bool.true_eq_false, Bool.not_true, Bool.not_false, Option.bind_some, Option.map_some, Nat.zero_add, ite_true, ite_false, i1, isCnt]
  | non => 
    have i1 : oIsInst S [.non, .ty "int"] = some (.bl false) := inst_of rfl kni
    simp only [d_is_count, sSeq, sIf, sRet, sSet, sExpr, sAsg, sFl, sNil, sFor, dBin, dC, dCall, dCallF, aCons, aNil, dTst, dNot, dAnd, dOr, bAnd, bOr, bNot, dChain, dUn, dTup, dLst, dCell, dIf, iSeq, iRange1, iRange2, dVar, gN, gTupD, gsCons, gsNil, dSl, oNo, oSo, asI, dComp, wipeE, Out.bind_ok, Out.bind_exc, Out.bind_bad, lift_some, lift_none, asB_bl, add_ii, sub_ii, neg_i, lt_ii, le_ii, gt_ii, ge_ii, eq_ii, ne_ii, eq_ss, ne_ss, isnot_bb, is_bb, is_non, isnot_non, ix_tupD, ix_lstD, ix_fzD, at_lit0, at_lit1, at_lit2, at_lit3, len_fz, len_lst, len_tup, itemsOf, List.map_cons, List.map_nil, List.length_cons, List.length_nil, List.getElem?_cons_zero, List.getElem?_cons_succ, List.set_cons_zero, List.set_cons_succ, List.cons_append, List.nil_append, List.replicate_succ, List.replicate_zero, Nat.reduceSub, Nat.reduceAdd, if_true, if_false, Bool.false_eq_true, Bool.true_eq_false, Bool.not_true, Bool.not_false, Option.bind_some, Option.map_some, Nat.zero_add, ite_true, ite_false, i1, isCnt]
  | str x => 
    have i1 : oIsInst S [.str x, .ty "int"] = some (.bl false) := inst_of rfl ksi
    simp only [d_is_count, sSeq, sIf, sRet, sSet, sExpr, sAsg, sFl, sNil, sFor, dBin, dC, dCall, dCallF, aCons, aNil, dTst, dNot, dAnd, dOr, bAnd, bOr, bNot, dChain, dUn, dTup, dLst, dCell, dIf, iSeq, iRange1, iRange2, dVar, gN, gTupD, gsCons, gsNil, dSl, oNo, oSo, asI, dComp, wipeE, Out.bind_ok, Out.bind_exc, Out.bind_bad, lift_some, lift_none, asB_bl, add_ii, sub_ii, neg_i, lt_ii, le_ii, gt_ii, ge_ii, eq_ii, ne_ii, eq_ss, ne_ss, isnot_bb, is_bb, is_non, isnot_non, ix_tupD, ix_lstD, ix_fzD, at_lit0, at_lit1, at_lit2, at_lit3, len_fz, len_lst, len_tup, itemsOf, List.map_cons, List.map_nil, List.length_cons, List.length_nil, List.getElem?_cons_zero, List.getElem?_cons_succ, List.set_cons_zero, List.set_cons_succ, List.cons_append, List.nil_append, List.replicate_succ, List.replicate_zero, Nat.reduceSub, Nat.reduceAdd, if_true, if_false, Bool.false_eq_true, Bool.true_eq_false, Bool.not_true, Bool.not_false, Option.bind_some, Option.map_some, Nat.zero_add, ite_true, ite_false, i1, isCnt]
  | tup x => 
    have i1 : oIsInst S [.tup x, .ty "int"] = some (.bl false) := inst_of rfl kti
    simp only [d_is_count, sSeq, sIf, sRet, sSet, sExpr, sAsg, sFl, sNil, sFor, dBin, dC, dCall, dCallF, aCons, aNil, dTst, dNot, dAnd, dOr, bAnd, bOr, bNot, dChain, dUn, dTup, dLst, dCell, dIf, iSeq, iRange1, iRange2, dVar, gN, gTupD, gsCons, gsNil, dSl, oNo, oSo, asI, dComp, wipeE, Out.bind_ok, Out.bind_exc, Out.bind_bad, lift_some, lift_none, asB_bl, add_ii, sub_ii, neg_i, lt_ii, le_ii, gt_ii, ge_ii, eq_ii, ne_ii, eq_ss, ne_ss, isnot_bb, is_bb, is_non, isnot_non, ix_tupD, ix_lstD, ix_fzD, at_lit0, at_lit1, at_lit2, at_lit3, len_fz, len_lst, len_tup, itemsOf, List.map_cons, List.map_nil, List.length_cons, List.length_nil, List.getElem?_cons_zero, List.getElem?_cons_succ, List.set_cons_zero, List.set_cons_succ, List.cons_append, List.nil_append, List.replicate_succ, List.replicate_zero, Nat.reduceSub, Nat.reduceAdd, if_true, if_false, Bool.false_eq_true, Bool.true_eq_false, Bool.not_true, Bool.not_false, Option.bind_some, Option.map_some, Nat.zero_add, ite_true, ite_false, i1, isCnt]
  | lst x => 
    have i1 : oIsInst S [.lst x, .ty "int"] = some (.bl false) := inst_of rfl kli
    simp only [d_is_count, sSeq, sIf, sRet, sSet, sExpr, sAsg, sFl, sNil, sFor, dBin, dC, dCall, dCallF, aCons, aNil, dTst, dNot, dAnd, dOr, bAnd, bOr, bNot, dChain, dUn, dTup, dLst, dCell, dIf, iSeq, iRange1, iRange2, dVar, gN, gTupD, gsCons, gsNil, dSl, oNo, oSo, asI, dComp, wipeE, Out.bind_ok, Out.bind_exc, Out.bind_bad, lift_some, lift_none, asB_bl, add_ii, sub_ii, neg_i, lt_ii, le_ii, gt_ii, ge_ii, eq_ii, ne_ii, eq_ss, ne_ss, isnot_bb, is_bb, is_non, isnot_non, ix_tupD, ix_lstD, ix_fzD, at_lit0, at_lit1, at_lit2, at_lit3, len_fz, len_lst, len_tup, itemsOf, List.map_cons, List.map_nil, List.length_cons, List.length_nil, List.getElem?_cons_zero, List.getElem?_cons_succ, List.set_cons_zero, List.set_cons_succ, List.cons_append, List.nil_append, List.replicate_succ, List.replicate_zero, Nat.reduceSub, Nat.reduceAdd, if_true, if_false, Bool.false_eq_true, Bool.true_eq_false, Bool.not_true, Bool.not_false, Option.bind_some, Option.map_some, Nat.zero_add, ite_true, ite_false, i1, isCnt]
  | fz x => 
    have i1 : oIsInst S [.fz x, .ty "int"] = some (.bl false) := inst_of rfl kli
    simp only [d_is_count, sSeq, sIf, sRet, sSet, sExpr, sAsg, sFl, sNil, sFor, dBin, dC, dCall, dCallF, aCons, aNil, dTst, dNot, dAnd, dOr, bAnd, bOr, bNot, dChain, dUn, dTup, dLst, dCell, dIf, iSeq, iRange1, iRange2, dVar, gN, gTupD, gsCons, gsNil, dSl, oNo, oSo, asI, dComp, wipeE, Out.bind_ok, Out.bind_exc, Out.bind_bad, lift_some, lift_none, asB_bl, add_ii, sub_ii, neg_i, lt_ii, le_ii, gt_ii, ge_ii, eq_ii, ne_ii, eq_ss, ne_ss, isnot_bb, is_bb, is_non, isnot_non, ix_tupD, ix_lstD, ix_fzD, at_lit0, at_lit1, at_lit2, at_lit3, len_fz, len_lst, len_tup, itemsOf, List.map_cons, List.map_nil, List.length_cons, List.length_nil, List.getElem?_cons_zero, List.getElem?_cons_succ, List.set_cons_zero, List.set_cons_succ, List.cons_append, List.nil_append, List.replicate_succ, List.replicate_zero, Nat.reduceSub, Nat.reduceAdd, if_true, if_false, Bool.false_eq_true, Bool.true_eq_false, Bool.not_true, Bool.not_false, Option.bind_some, Option.map_some, Nat.zero_add, ite_true, ite_false, i1, isCnt]
theorem blsOf_map {A : Type} (f : A → Bool) : ∀ l : List A, blsOf (l.map fun a => D.bl (f a)) = some (l.map f)
  | [] => rfl
  | a :: l => by
    show (blsOf (l.map fun a => D.bl (f a))).map (f a :: ·) = _
    rw [blsOf_map f l]
    rfl
theorem counted_spec {S : Sto} {d : D} (h : typedD S d = true) : f_is_counted [d] S = .ok (.bl (isCounted d)) S := by
  have it := inst_tup h
  cases d with
  | tup ds =>
    have h' : typedL S ds = true := h
    match ds, h', it with
    | [x, y], h', it =>
      have hx := typed_mem h' (List.mem_cons_self : x ∈ [x, y])
      have hy := typed_mem h' (List.mem_cons_of_mem _ List.mem_cons_self : y ∈ [x, y])
      have cx := count_spec hx
      have iy := inst_tup hy
      have it : oIsInst S [.tup [x, y], .ty "tuple"] = some (.bl true) := it
      have two : ((2 : Nat) : Int) = 2 := rfl
      cases hcx : isCnt x with
      | false =>
        have e : isCounted (.tup [x, y]) = false := by
          unfold isCounted
          split
          · rename_i q
            cases q
            rw [hcx, Bool.false_and]
          · rfl
        rw [e]
        refine fun0_rt (env := [some (.tup [x, y]), none, none, none]) ?_
        simp only [d_is_counted, sSeq, sIf, sRet, sSet, sExpr, sAsg, sFl, sNil, sFor, dBin, dC, dCall, dCallF, aCons, aNil, dTst, dNot, dAnd, dOr, bAnd, bOr, bNot, dChain, dUn, dTup, dLst, dCell, dIf, iSeq, iRange1, iRange2, dVar, gN, gTupD, gsCons, gsNil, dSl, oNo, oSo, asI, dComp, wipeE, Out.bind_ok, Out.bind_exc, Out.bind_bad, lift_some, lift_none, asB_bl, add_ii, sub_ii, neg_i, lt_ii, le_ii, gt_ii, ge_ii, eq_ii, ne_ii, eq_ss, ne_ss, isnot_bb, is_bb, is_non, isnot_non, ix_tupD, ix_lstD, ix_fzD, at_lit0, at_lit1, at_lit2, at_lit3, len_fz, len_lst, len_tup, itemsOf, List.map_cons, List.map_nil, List.length_cons, List.length_nil, List.getElem?_cons_zero, List.getElem?_cons_succ, List.set_cons_zero, List.set_cons_succ, List.cons_append, List.nil_append, List.replicate_succ, List.replicate_zero, Nat.reduceSub, Nat.reduceAdd, if_true, if_false, Bool.false_eq_true, Bool.true_eq_false, Bool.not_true, Bool.not_false, Option.bind_some, Option.map_some, Nat.zero_add, ite_true, ite_false, it, isTupD, cx, hcx, two, decide_true]
      | true =>
        obtain ⟨k, ek, hk⟩ : ∃ k, x = .int k ∧ 0 ≤ k := by
          cases x with
          | int k => exact ⟨k, rfl, of_decide_eq_true hcx⟩
          | _ => cases hcx
        subst ek
        cases hty : isTupD y with
        | false =>
          have e : isCounted (.tup [.int k, y]) = false := by
            unfold isCounted
            split
            · rename_i q
              cases q
              cases hty
            · rfl
          rw [e]
          refine fun0_rt (env := [some (.tup [.int k, y]), none, none, none]) ?_
          rw [hty] at iy
          simp only [d_is_counted, sSeq, sIf, sRet, sSet, sExpr, sAsg, sFl, sNil, sFor, dBin, dC, dCall, dCallF, aCons, aNil, dTst, dNot, dAnd, dOr, bAnd, bOr, bNot, dChain, dUn, dTup, dLst, dCell, dIf, iSeq, iRange1, iRange2, dVar, gN, gTupD, gsCons, gsNil, dSl, oNo, oSo, asI, dComp, wipeE, Out.bind_ok, Out.bind_exc, Out.bind_bad, lift_some, lift_none, asB_bl, add_ii, sub_ii, neg_i, lt_ii, le_ii, gt_ii, ge_ii, eq_ii, ne_ii, eq_ss, ne_ss, isnot_bb, is_bb, is_non, isnot_non, ix_tupD, ix_lstD, ix_fzD, at_lit0, at_lit1, at_lit2, at_lit3, len_fz, len_lst, len_tup, itemsOf, List.map_cons, List.map_nil, List.length_cons, List.length_nil, List.getElem?_cons_zero, List.getElem?_cons_succ, List.set_cons_zero, List.set_cons_succ, List.cons_append, List.nil_append, List.replicate_succ, List.replicate_zero, Nat.reduceSub, Nat.reduceAdd, if_true, if_false, Bool.false_eq_true, Bool.true_eq_false, Bool.not_true, Bool.not_false, Option.bind_some, Option.map_some, Nat.zero_add, ite_true, ite_false, it, cx, hcx, two, decide_true, iy]
        | true =>
          obtain ⟨cs, ec⟩ : ∃ cs, y = .tup cs := by
            cases y with
            | tup cs => exact ⟨cs, rfl⟩
            | _ => cases hty
          subst ec
          by_cases hk2 : 1 ≤ k ∧ k ≤ 5
          · by_cases hl : 1 ≤ cs.length ∧ cs.length ≤ 5
            · have em := compGo_map (g := gN 3) (env := [some (.tup [.int k, .tup cs]), some (.int k), some (.tup cs), none]) (te := dAnd (dCallF f_is_count (aCons (dVar 3) aNil)) (dBin oLe (dVar 3) (dC (.int 4)))) (S := S) (fun c => .bl (isCnt c && leD c)) cs [] (fun c hc => ⟨_, rfl, by
                have cc := count_spec (typed_mem (show typedL S cs = true from hy) hc)
                cases hcc : isCnt c with
                | false => simp only [sSeq, sIf, sRet, sSet, sExpr, sAsg, sFl, sNil, sFor, dBin, dC, dCall, dCallF, aCons, aNil, dTst, dNot, dAnd, dOr, bAnd, bOr, bNot, dChain, dUn, dTup, dLst, dCell, dIf, iSeq, iRange1, iRange2, dVar, gN, gTupD, gsCons, gsNil, dSl, oNo, oSo, asI, dComp, wipeE, Out.bind_ok, Out.bind_exc, Out.bind_bad, lift_some, lift_none, asB_bl, add_ii, sub_ii, neg_i, lt_ii, le_ii, gt_ii, ge_ii, eq_ii, ne_ii, eq_ss, ne_ss, isnot_bb, is_bb, is_non, isnot_non, ix_tupD, ix_lstD, ix_fzD, at_lit0, at_lit1, at_lit2, at_lit3, len_fz, len_lst, len_tup, itemsOf, List.map_cons, List.map_nil, List.length_cons, List.length_nil, List.getElem?_cons_zero, List.getElem?_cons_succ, List.set_cons_zero, List.set_cons_succ, List.cons_append, List.nil_append, List.replicate_succ, List.replicate_zero, Nat.reduceSub, Nat.reduceAdd, if_true, if_false, Bool.false_eq_true, Bool.true_eq_false, Bool.not_true, Bool.not_false, Option.bind_some, Option.map_some, Nat.zero_add, ite_true, ite_false, cc, hcc, Bool.false_and]
                | true =>
                  obtain ⟨j, ej⟩ : ∃ j, c = .int j := by
                    cases c with
                    | int j => exact ⟨j, rfl⟩
                    | _ => cases hcc
                  subst ej
                  simp only [sSeq, sIf, sRet, sSet, sExpr, sAsg, sFl, sNil, sFor, dBin, dC, dCall, dCallF, aCons, aNil, dTst, dNot, dAnd, dOr, bAnd, bOr, bNot, dChain, dUn, dTup, dLst, dCell, dIf, iSeq, iRange1, iRange2, dVar, gN, gTupD, gsCons, gsNil, dSl, oNo, oSo, asI, dComp, wipeE, Out.bind_ok, Out.bind_exc, Out.bind_bad, lift_some, lift_none, asB_bl, add_ii, sub_ii, neg_i, lt_ii, le_ii, gt_ii, ge_ii, eq_ii, ne_ii, eq_ss, ne_ss, isnot_bb, is_bb, is_non, isnot_non, ix_tupD, ix_lstD, ix_fzD, at_lit0, at_lit1, at_lit2, at_lit3, len_fz, len_lst, len_tup, itemsOf, List.map_cons, List.map_nil, List.length_cons, List.length_nil, List.getElem?_cons_zero, List.getElem?_cons_succ, List.set_cons_zero, List.set_cons_succ, List.cons_append, List.nil_append, List.replicate_succ, List.replicate_zero, Nat.reduceSub, Nat.reduceAdd, if_true, if_false, Bool.false_eq_true, Bool.true_eq_false, Bool.not_true, Bool.not_false, Option.bind_some, Option.map_some, Nat.zero_add, ite_true, ite_false, cc, hcc, leD, Bool.true_and]⟩) (by rw [List.length_nil, sizeLine_eq]; omega)
              rw [List.nil_append] at em
              have ea : oAll S [.lst (cs.map fun c => .bl (isCnt c && leD c))] = some (.bl (cs.all fun c => isCnt c && leD c)) := by
                show ((some (cs.map fun c => D.bl (isCnt c && leD c))).bind blsOf).map _ = _
                rw [Option.bind_some, blsOf_map, Option.map_some, List.all_map]
                rfl
              have e : isCounted (.tup [.int k, .tup cs]) = cs.all fun c => isCnt c && leD c := by
                simp only [isCounted, hcx, decide_eq_true hk2.1, decide_eq_true hk2.2, decide_eq_true hl.1, decide_eq_true hl.2, Bool.true_and]
              rw [e]
              refine fun0_rt (env := [some (.tup [.int k, .tup cs]), some (.int k), some (.tup cs), none]) ?_
              have l1 : (1 : Int) ≤ cs.length := by omega
              have l2 : (cs.length : Int) ≤ 5 := by omega
              simp only [d_is_counted, sSeq, sIf, sRet, sSet, sExpr, sAsg, sFl, sNil, sFor, dBin, dC, dCall, dCallF, aCons, aNil, dTst, dNot, dAnd, dOr, bAnd, bOr, bNot, dChain, dUn, dTup, dLst, dCell, dIf, iSeq, iRange1, iRange2, dVar, gN, gTupD, gsCons, gsNil, dSl, oNo, oSo, asI, dComp, wipeE, Out.bind_ok, Out.bind_exc, Out.bind_bad, lift_some, lift_none, asB_bl, add_ii, sub_ii, neg_i, lt_ii, le_ii, gt_ii, ge_ii, eq_ii, ne_ii, eq_ss, ne_ss, isnot_bb, is_bb, is_non, isnot_non, ix_tupD, ix_lstD, ix_fzD, at_lit0, at_lit1, at_lit2, at_lit3, len_fz, len_lst, len_tup, itemsOf, List.map_cons, List.map_nil, List.length_cons, List.length_nil, List.getElem?_cons_zero, List.getElem?_cons_succ, List.set_cons_zero, List.set_cons_succ, List.cons_append, List.nil_append, List.replicate_succ, List.replicate_zero, Nat.reduceSub, Nat.reduceAdd, if_true, if_false, Bool.false_eq_true, Bool.true_eq_false, Bool.not_true, Bool.not_false, Option.bind_some, Option.map_some, Nat.zero_add, ite_true, ite_false, it, isTupD, cx, hcx, two, decide_true, iy, decide_eq_true hk2.1, decide_eq_true hk2.2, decide_eq_true l1, decide_eq_true l2, em, ea]
            · have e : isCounted (.tup [.int k, .tup cs]) = false := by
                unfold isCounted
                by_cases l1 : 1 ≤ cs.length
                · have l2 : ¬ cs.length ≤ 5 := fun q => hl ⟨l1, q⟩
                  simp only [decide_eq_false l2, Bool.and_false, Bool.false_and]
                · simp only [decide_eq_false l1, Bool.and_false, Bool.false_and]
              rw [e]
              refine fun0_rt (env := [some (.tup [.int k, .tup cs]), some (.int k), some (.tup cs), none]) ?_
              by_cases l1 : (1 : Int) ≤ cs.length
              · have l2 : ¬ (cs.length : Int) ≤ 5 := fun q => hl ⟨by omega, by omega⟩
                simp only [d_is_counted, sSeq, sIf, sRet, sSet, sExpr, sAsg, sFl, sNil, sFor, dBin, dC, dCall, dCallF, aCons, aNil, dTst, dNot, dAnd, dOr, bAnd, bOr, bNot, dChain, dUn, dTup, dLst, dCell, dIf, iSeq, iRange1, iRange2, dVar, gN, gTupD, gsCons, gsNil, dSl, oNo, oSo, asI, dComp, wipeE, Out.bind_ok, Out.bind_exc, Out.bind_bad, lift_some, lift_none, asB_bl, add_ii, sub_ii, neg_i, lt_ii, le_ii, gt_ii, ge_ii, eq_ii, ne_ii, eq_ss, ne_ss, isnot_bb, is_bb, is_non, isnot_non, ix_tupD, ix_lstD, ix_fzD, at_lit0, at_lit1, at_lit2, at_lit3, len_fz, len_lst, len_tup, itemsOf, List.map_cons, List.map_nil, List.length_cons, List.length_nil, List.getElem?_cons_zero, List.getElem?_cons_succ, List.set_cons_zero, List.set_cons_succ, List.cons_append, List.nil_append, List.replicate_succ, List.replicate_zero, Nat.reduceSub, Nat.reduceAdd, if_true, if_false, Bool.false_eq_true, Bool.true_eq_false, Bool.not_true, Bool.not_false, Option.bind_some, Option.map_some, Nat.zero_add, ite_true, ite_false, it, isTupD, cx, hcx, two, decide_true, iy, decide_eq_true hk2.1, decide_eq_true hk2.2, decide_eq_true l1, decide_eq_false l2]
              · simp only [d_is_counted, sSeq, sIf, sRet, sSet, sExpr, sAsg, sFl, sNil, sFor, dBin, dC, dCall, dCallF, aCons, aNil, dTst, dNot, dAnd, dOr, bAnd, bOr, bNot, dChain, dUn, dTup, dLst, dCell, dIf, iSeq, iRange1, iRange2, dVar, gN, gTupD, gsCons, gsNil, dSl, oNo, oSo, asI, dComp, wipeE, Out.bind_ok, Out.bind_exc, Out.bind_bad, lift_some, lift_none, asB_bl, add_ii, sub_ii, neg_i, lt_ii, le_ii, gt_ii, ge_ii, eq_ii, ne_ii, eq_ss, ne_ss, isnot_bb, is_bb, is_non, isnot_non, ix_tupD, ix_lstD, ix_fzD, at_lit0, at_lit1, at_lit2, at_lit3, len_fz, len_lst, len_tup, itemsOf, List.map_cons, List.map_nil, List.length_cons, List.length_nil, List.getElem?_cons_zero, List.getElem?_cons_succ, List.set_cons_zero, List.set_cons_succ, List.cons_append, List.nil_append, List.replicate_succ, List.replicate_zero, Nat.reduceSub, Nat.reduceAdd, if_true, if_false, Bool.false_eq_true, Bool.true_eq_false, Bool.not_true, Bool.not_false, Option.bind_some, Option.map_some, Nat.zero_add, ite_true, ite_false, it, isTupD, cx, hcx, two, decide_true, iy, decide_eq_true hk2.1, decide_eq_true hk2.2, decide_eq_false l1]
          · have e : isCounted (.tup [.int k, .tup cs]) = false := by
              unfold isCounted
              by_cases l1 : 1 ≤ k
              · have l2 : ¬ k ≤ 5 := fun q => hk2 ⟨l1, q⟩
                simp only [decide_eq_false l2, Bool.and_false, Bool.false_and]
              · simp only [decide_eq_false l1, Bool.and_false, Bool.false_and]
            rw [e]
            refine fun0_rt (env := [some (.tup [.int k, .tup cs]), some (.int k), some (.tup cs), none]) ?_
            by_cases l1 : 1 ≤ k
            · have l2 : ¬ k ≤ 5 := fun q => hk2 ⟨l1, q⟩
              simp only [d_is_counted, sSeq, sIf, sRet, sSet, sExpr, sAsg, sFl, sNil, sFor, dBin, dC, dCall, dCallF, aCons, aNil, dTst, dNot, dAnd, dOr, bAnd, bOr, bNot, dChain, dUn, dTup, dLst, dCell, dIf, iSeq, iRange1, iRange2, dVar, gN, gTupD, gsCons, gsNil, dSl, oNo, oSo, asI, dComp, wipeE, Out.bind_ok, Out.bind_exc, Out.bind_bad, lift_some, lift_none, asB_bl, add_ii, sub_ii, neg_i, lt_ii, le_ii, gt_ii, ge_ii, eq_ii, ne_ii, eq_ss, ne_ss, isnot_bb, is_bb, is_non, isnot_non, ix_tupD, ix_lstD, ix_fzD, at_lit0, at_lit1, at_lit2, at_lit3, len_fz, len_lst, len_tup, itemsOf, List.map_cons, List.map_nil, List.length_cons, List.length_nil, List.getElem?_cons_zero, List.getElem?_cons_succ, List.set_cons_zero, List.set_cons_succ, List.cons_append, List.nil_append, List.replicate_succ, List.replicate_zero, Nat.reduceSub, Nat.reduceAdd, if_true, if_false, Bool.false_eq_true, Bool.true_eq_false, Bool.not_true, Bool.not_false, Option.bind_some, Option.map_some, Nat.zero_add, ite_true, ite_false, it, isTupD, cx, hcx, two, decide_true, iy, decide_eq_true l1, decide_eq_false l2]
            · simp only [d_is_counted, sSeq, sIf, sRet, sSet, sExpr, sAsg, sFl, sNil, sFor, dBin, dC, dCall, dCallF, aCons, aNil, dTst, dNot, dAnd, dOr, bAnd, bOr, bNot, dChain, dUn, dTup, dLst, dCell, dIf, iSeq, iRange1, iRange2, dVar, gN, gTupD, gsCons, gsNil, dSl, oNo, oSo, asI, dComp, wipeE, Out.bind_ok, Out.bind_exc, Out.bind_bad, lift_some, lift_none, asB_bl, add_ii, sub_ii, neg_i, lt_ii, le_ii, gt_ii, ge_ii, eq_ii, ne_ii, eq_ss, ne_ss, isnot_bb, is_bb, is_non, isnot_non, ix_tupD, ix_lstD, ix_fzD, at_lit0, at_lit1, at_lit2, at_lit3, len_fz, len_lst, len_tup, itemsOf, List.map_cons, List.map_nil, List.length_cons, List.length_nil, List.getElem?_cons_zero, List.getElem?_cons_succ, List.set_cons_zero, List.set_cons_succ, List.cons_append, List.nil_append, List.replicate_succ, List.replicate_zero, Nat.reduceSub, Nat.reduceAdd, if_true, if_false, Bool.false_eq_true, Bool.true_eq_false, Bool.not_true, Bool.not_false, Option.bind_some, Option.map_some, Nat.zero_add, ite_true, ite_false, it, isTupD, cx, hcx, two, decide_true, iy, decide_eq_false l1]
    | [], _, it =>
      refine fun0_rt (env := [some (.tup []), none, none, none]) ?_
      simp only [d_is_counted, sSeq, sIf, sRet, sSet, sExpr, sAsg, sFl, sNil, sFor, dBin, dC, dCall, dCallF, aCons, aNil, dTst, dNot, dAnd, dOr, bAnd, bOr, bNot, dChain, dUn, dTup, dLst, dCell, dIf, iSeq, iRange1, iRange2, dVar, gN, gTupD, gsCons, gsNil, dSl, oNo, oSo, asI, dComp, wipeE, Out.bind_ok, Out.bind_exc, Out.bind_bad, lift_some, lift_none, asB_bl, add_ii, sub_ii, neg_i, lt_ii, le_ii, gt_ii, ge_ii, eq_ii, ne_ii, eq_ss, ne_ss, isnot_bb, is_bb, is_non, isnot_non, ix_tupD, ix_lstD, ix_fzD, at_lit0, at_lit1, at_lit2, at_lit3, len_fz, len_lst, len_tup, itemsOf, List.map_cons, List.map_nil, List.length_cons, List.length_nil, List.getElem?_cons_zero, List.getElem?_cons_succ, List.set_cons_zero, List.set_cons_succ, List.cons_append, List.nil_append, List.replicate_succ, List.replicate_zero, Nat.reduceSub, Nat.reduceAdd, if_true, if_false, Bool.false_eq_true, Bool.true_eq_false, Bool.not_true, Bool.not_false, Option.bind_some, Option.map_some, Nat.zero_add, ite_true, ite_false, it, isTupD]
      rfl
    | [x], _, it =>
      refine fun0_rt (env := [some (.tup [x]), none, none, none]) ?_
      simp only [d_is_counted, sSeq, sIf, sRet, sSet, sExpr, sAsg, sFl, sNil, sFor, dBin, dC, dCall, dCallF, aCons, aNil, dTst, dNot, dAnd, dOr, bAnd, bOr, bNot, dChain, dUn, dTup, dLst, dCell, dIf, iSeq, iRange1, iRange2, dVar, gN, gTupD, gsCons, gsNil, dSl, oNo, oSo, asI, dComp, wipeE, Out.bind_ok, Out.bind_exc, Out.bind_bad, lift_some, lift_none, asB_bl, add_ii, sub_ii, neg_i, lt_ii, le_ii, gt_ii, ge_ii, eq_ii, ne_ii, eq_ss, ne_ss, isnot_bb, is_bb, is_non, isnot_non, ix_tupD, ix_lstD, ix_fzD, at_lit0, at_lit1, at_lit2, at_lit3, len_fz, len_lst, len_tup, itemsOf, List.map_cons, List.map_nil, List.length_cons, List.length_nil, List.getElem?_cons_zero, List.getElem?_cons_succ, List.set_cons_zero, List.set_cons_succ, List.cons_append, List.nil_append, List.replicate_succ, List.replicate_zero, Nat.reduceSub, Nat.reduceAdd, if_true, if_false, Bool.false_eq_true, Bool.true_eq_false, Bool.not_true, Bool.not_false, Option.bind_some, Option.map_some, Nat.zero_add, ite_true, ite_false, it, isTupD]
      rfl
    | x :: y :: z :: r, _, it =>
      have e : isCounted (.tup (x :: y :: z :: r)) = false := by cases y <;> rfl
      have n2 : ¬ ((((r.length + 1 + 1 + 1 : Nat)) : Int) = 2) := by omega
      rw [e]
      refine fun0_rt (env := [some (.tup (x :: y :: z :: r)), none, none, none]) ?_
      simp only [d_is_counted, sSeq, sIf, sRet, sSet, sExpr, sAsg, sFl, sNil, sFor, dBin, dC, dCall, dCallF, aCons, aNil, dTst, dNot, dAnd, dOr, bAnd, bOr, bNot, dChain, dUn, dTup, dLst, dCell, dIf, iSeq, iRange1, iRange2, dVar, gN, gTupD, gsCons, gsNil, dSl, oNo, oSo, asI, dComp, wipeE, Out.bind_ok, Out.bind_exc, Out.bind_bad, lift_some, lift_none, asB_bl, add_ii, sub_ii, neg_i, lt_ii, le_ii, gt_ii, ge_ii, eq_ii, ne_ii, eq_ss, ne_ss, isnot_bb, is_bb, is_non, isnot_non, ix_tupD, ix_lstD, ix_fzD, at_lit0, at_lit1, at_lit2, at_lit3, len_fz, len_lst, len_tup, itemsOf, List.map_cons, List.map_nil, List.length_cons, List.length_nil, List.getElem?_cons_zero, List.getElem?_cons_succ, List.set_cons_zero, List.set_cons_succ, List.cons_append, List.nil_append, List.replicate_succ, List.replicate_zero, Nat.reduceSub, Nat.reduceAdd, if_true, if_false, Bool.false_eq_true, Bool.true_eq_false, Bool.not_true, Bool.not_false, Option.bind_some, Option.map_some, Nat.zero_add, ite_true, ite_false, it, isTupD, decide_eq_false n2]
  | non =>
    refine fun0_rt (env := [some (.non), none, none, none]) ?_
    simp only [d_is_counted, sSeq, sIf, sRet, sSet, sExpr, sAsg, sFl, sNil, sFor, dBin, dC, dCall, dCallF, aCons, aNil, dTst, dNot, dAnd, dOr, bAnd, bOr, bNot, dChain, dUn, dTup, dLst, dCell, dIf, iSeq, iRange1, iRange2, dVar, gN, gTupD, gsCons, gsNil, dSl, oNo, oSo, asI, dComp, wipeE, Out.bind_ok, Out.bind_exc, Out.bind_bad, lift_some, lift_none, asB_bl, add_ii, sub_ii, neg_i, lt_ii, le_ii, gt_ii, ge_ii, eq_ii, ne_ii, eq_ss, ne_ss, isnot_bb, is_bb, is_non, isnot_non, ix_tupD, ix_lstD, ix_fzD, at_lit0, at_lit1, at_lit2, at_lit3, len_fz, len_lst, len_tup, itemsOf, List.map_cons, List.map_nil, List.length_cons, List.length_nil, List.getElem?_cons_zero, List.getElem?_cons_succ, List.set_cons_zero, List.set_cons_succ, List.cons_append, List.nil_append, List.replicate_succ, List.replicate_zero, Nat.reduceSub, Nat.reduceAdd, if_true, if_false, Bool.false_eq_true, Bool.true_eq_false, Bool.not_true, Bool.not_false, Option.bind_some, Option.map_some, Nat.zero_add, ite_true, ite_false, it, isTupD]
    rfl
  | bl b =>
    refine fun0_rt (env := [some (.bl b), none, none, none]) ?_
    simp only [d_is_counted, sSeq, sIf, sRet, sSet, sExpr, sAsg, sFl, sNil, sFor, dBin, dC, dCall, dCallF, aCons, aNil, dTst, dNot, dAnd, dOr, bAnd, bOr, bNot, dChain, dUn, dTup, dLst, dCell, dIf, iSeq, iRange1, iRange2, dVar, gN, gTupD, gsCons, gsNil, dSl, oNo, oSo, asI, dComp, wipeE, Out.bind_ok, Out.bind_exc, Out.bind_bad, lift_some, lift_none, asB_bl, add_ii, sub_ii, neg_i, lt_ii, le_ii, gt_ii, ge_ii, eq_ii, ne_ii, eq_ss, ne_ss, isnot_bb, is_bb, is_non, isnot_non, ix_tupD, ix_lstD, ix_fzD, at_lit0, at_lit1, at_lit2, at_lit3, len_fz, len_lst, len_tup, itemsOf, List.map_cons, List.map_nil, List.length_cons, List.length_nil, List.getElem?_cons_zero, List.getElem?_cons_succ, List.set_cons_zero, List.set_cons_succ, List.cons_append, List.nil_append, List.replicate_succ, List.replicate_zero, Nat.reduceSub, Nat.reduceAdd, if_true, if_false, Bool.false_eq_true, Bool.true_eq_false, Bool.not_true, Bool.not_false, Option.bind_some, Option.map_some, Nat.zero_add, ite_true, ite_false, it, isTupD]
    rfl
  | int b =>
    refine fun0_rt (env := [some (.int b), none, none, none]) ?_
    simp only [d_is_counted, sSeq, sIf, sRet, sSet, sExpr, sAsg, sFl, sNil, sFor, dBin, dC, dCall, dCallF, aCons, aNil, dTst, dNot, dAnd, dOr, bAnd, bOr, bNot, dChain, dUn, dTup, dLst, dCell, dIf, iSeq, iRange1, iRange2, dVar, gN, gTupD, gsCons, gsNil, dSl, oNo, oSo, asI, dComp, wipeE, Out.bind_ok, Out.bind_exc, Out.bind_bad, lift_some, lift_none, asB_bl, add_ii, sub_ii, neg_i, lt_ii, le_ii, gt_ii, ge_ii, eq_ii, ne_ii, eq_ss, ne_ss, isnot_bb, is_bb, is_non, isnot_non, ix_tupD, ix_lstD, ix_fzD, at_lit0, at_lit1, at_lit2, at_lit3, len_fz, len_lst, len_tup, itemsOf, List.map_cons, List.map_nil, List.length_cons, List.length_nil, List.getElem?_cons_zero, List.getElem?_cons_succ, List.set_cons_zero, List.set_cons_succ, List.cons_append, List.nil_append, List.replicate_succ, List.replicate_zero, Nat.reduceSub, Nat.reduceAdd, if_true, if_false, Bool.false_eq_true, Bool.true_eq_false, Bool.not_true, Bool.not_false, Option.bind_some, Option.map_some, Nat.zero_add, ite_true, ite_false, it, isTupD]
    rfl
  | str b =>
    refine fun0_rt (env := [some (.str b), none, none, none]) ?_
    simp only [d_is_counted, sSeq, sIf, sRet, sSet, sExpr, sAsg, sFl, sNil, sFor, dBin, dC, dCall, dCallF, aCons, aNil, dTst, dNot, dAnd, dOr, bAnd, bOr, bNot, dChain, dUn, dTup, dLst, dCell, dIf, iSeq, iRange1, iRange2, dVar, gN, gTupD, gsCons, gsNil, dSl, oNo, oSo, asI, dComp, wipeE, Out.bind_ok, Out.bind_exc, Out.bind_bad, lift_some, lift_none, asB_bl, add_ii, sub_ii, neg_i, lt_ii, le_ii, gt_ii, ge_ii, eq_ii, ne_ii, eq_ss, ne_ss, isnot_bb, is_bb, is_non, isnot_non, ix_tupD, ix_lstD, ix_fzD, at_lit0, at_lit1, at_lit2, at_lit3, len_fz, len_lst, len_tup, itemsOf, List.map_cons, List.map_nil, List.length_cons, List.length_nil, List.getElem?_cons_zero, List.getElem?_cons_succ, List.set_cons_zero, List.set_cons_succ, List.cons_append, List.nil_append, List.replicate_succ, List.replicate_zero, Nat.reduceSub, Nat.reduceAdd, if_true, if_false, Bool.false_eq_true, Bool.true_eq_false, Bool.not_true, Bool.not_false, Option.bind_some, Option.map_some, Nat.zero_add, ite_true, ite_false, it, isTupD]
    rfl
  | lst b =>
    refine fun0_rt (env := [some (.lst b), none, none, none]) ?_
    simp only [d_is_counted, sSeq, sIf, sRet, sSet, sExpr, sAsg, sFl, sNil, sFor, dBin, dC, dCall, dCallF, aCons, aNil, dTst, dNot, dAnd, dOr, bAnd, bOr, bNot, dChain, dUn, dTup, dLst, dCell, dIf, iSeq, iRange1, iRange2, dVar, gN, gTupD, gsCons, gsNil, dSl, oNo, oSo, asI, dComp, wipeE, Out.bind_ok, Out.bind_exc, Out.bind_bad, lift_some, lift_none, asB_bl, add_ii, sub_ii, neg_i, lt_ii, le_ii, gt_ii, ge_ii, eq_ii, ne_ii, eq_ss, ne_ss, isnot_bb, is_bb, is_non, isnot_non, ix_tupD, ix_lstD, ix_fzD, at_lit0, at_lit1, at_lit2, at_lit3, len_fz, len_lst, len_tup, itemsOf, List.map_cons, List.map_nil, List.length_cons, List.length_nil, List.getElem?_cons_zero, List.getElem?_cons_succ, List.set_cons_zero, List.set_cons_succ, List.cons_append, List.nil_append, List.replicate_succ, List.replicate_zero, Nat.reduceSub, Nat.reduceAdd, if_true, if_false, Bool.false_eq_true, Bool.true_eq_false, Bool.not_true, Bool.not_false, Option.bind_some, Option.map_some, Nat.zero_add, ite_true, ite_false, it, isTupD]
    rfl
  | fz b =>
    refine fun0_rt (env := [some (.fz b), none, none, none]) ?_
    simp only [d_is_counted, sSeq, sIf, sRet, sSet, sExpr, sAsg, sFl, sNil, sFor, dBin, dC, dCall, dCallF, aCons, aNil, dTst, dNot, dAnd, dOr, bAnd, bOr, bNot, dChain, dUn, dTup, dLst, dCell, dIf, iSeq, iRange1, iRange2, dVar, gN, gTupD, gsCons, gsNil, dSl, oNo, oSo, asI, dComp, wipeE, Out.bind_ok, Out.bind_exc, Out.bind_bad, lift_some, lift_none, asB_bl, add_ii, sub_ii, neg_i, lt_ii, le_ii, gt_ii, ge_ii, eq_ii, ne_ii, eq_ss, ne_ss, isnot_bb, is_bb, is_non, isnot_non, ix_tupD, ix_lstD, ix_fzD, at_lit0, at_lit1, at_lit2, at_lit3, len_fz, len_lst, len_tup, itemsOf, List.map_cons, List.map_nil, List.length_cons, List.length_nil, List.getElem?_cons_zero, List.getElem?_cons_succ, List.set_cons_zero, List.set_cons_succ, List.cons_append, List.nil_append, List.replicate_succ, List.replicate_zero, Nat.reduceSub, Nat.reduceAdd, if_true, if_false, Bool.false_eq_true, Bool.true_eq_false, Bool.not_true, Bool.not_false, Option.bind_some, Option.map_some, Nat.zero_add, ite_true, ite_false, it, isTupD]
    rfl
  | ref b =>
    refine fun0_rt (env := [some (.ref b), none, none, none]) ?_
    simp only [d_is_counted, sSeq, sIf, sRet, sSet, sExpr, sAsg, sFl, sNil, sFor, dBin, dC, dCall, dCallF, aCons, aNil, dTst, dNot, dAnd, dOr, bAnd, bOr, bNot, dChain, dUn, dTup, dLst, dCell, dIf, iSeq, iRange1, iRange2, dVar, gN, gTupD, gsCons, gsNil, dSl, oNo, oSo, asI, dComp, wipeE, Out.bind_ok, Out.bind_exc, Out.bind_bad, lift_some, lift_none, asB_bl, add_ii, sub_ii, neg_i, lt_ii, le_ii, gt_ii, ge_ii, eq_ii, ne_ii, eq_ss, ne_ss, isnot_bb, is_bb, is_non, isnot_non, ix_tupD, ix_lstD, ix_fzD, at_lit0, at_lit1, at_lit2, at_lit3, len_fz, len_lst, len_tup, itemsOf, List.map_cons, List.map_nil, List.length_cons, List.length_nil, List.getElem?_cons_zero, List.getElem?_cons_succ, List.set_cons_zero, List.set_cons_succ, List.cons_append, List.nil_append, List.replicate_succ, List.replicate_zero, Nat.reduceSub, Nat.reduceAdd, if_true, if_false, Bool.false_eq_true, Bool.true_eq_false, Bool.not_true, Bool.not_false, Option.bind_some, Option.map_some, Nat.zero_add, ite_true, ite_false, it, isTupD]
    rfl
  | ty b =>
    refine fun0_rt (env := [some (.ty b), none, none, none]) ?_
    simp only [d_is_counted, sSeq, sIf, sRet, sSet, sExpr, sAsg, sFl, sNil, sFor, dBin, dC, dCall, dCallF, aCons, aNil, dTst, dNot, dAnd, dOr, bAnd, bOr, bNot, dChain, dUn, dTup, dLst, dCell, dIf, iSeq, iRange1, iRange2, dVar, gN, gTupD, gsCons, gsNil, dSl, oNo, oSo, asI, dComp, wipeE, Out.bind_ok, Out.bind_exc, Out.bind_bad, lift_some, lift_none, asB_bl, add_ii, sub_ii, neg_i, lt_ii, le_ii, gt_ii, ge_ii, eq_ii, ne_ii, eq_ss, ne_ss, isnot_bb, is_bb, is_non, isnot_non, ix_tupD, ix_lstD, ix_fzD, at_lit0, at_lit1, at_lit2, at_lit3, len_fz, len_lst, len_tup, itemsOf, List.map_cons, List.map_nil, List.length_cons, List.length_nil, List.getElem?_cons_zero, List.getElem?_cons_succ, List.set_cons_zero, List.set_cons_succ, List.cons_append, List.nil_append, List.replicate_succ, List.replicate_zero, Nat.reduceSub, Nat.reduceAdd, if_true, if_false, Bool.false_eq_true, Bool.true_eq_false, Bool.not_true, Bool.not_false, Option.bind_some, Option.map_some, Nat.zero_add, ite_true, ite_false, it, isTupD]
    rfl
theorem cut_lo (ds : List D) (i : Int) (h0 : 0 ≤ i) (h : i ≤ ds.length) : cutD ds none (some i) = ds.take i.toNat := by
  have e : i = ((i.toNat : Nat) : Int) := by omega
  unfold cutD
  rw [e, HT.sIx_nat, HT.sIx_none, List.drop_zero, Nat.sub_zero, Int.toNat_natCast, Nat.min_eq_left (by omega)]
theorem cut_hi (ds : List D) (i : Int) (h0 : 0 ≤ i) (h : i ≤ ds.length) : cutD ds (some i) none = ds.drop i.toNat := by
  have e : i = ((i.toNat : Nat) : Int) := by omega
  unfold cutD
  rw [e, HT.sIx_nat, HT.sIx_none, Int.toNat_natCast, Nat.min_eq_left (by omega), List.take_of_length_le (by rw [List.length_drop]; omega)]
theorem typed_ints (S : Sto) : ∀ cs : List Int, typedL S (cs.map D.int) = true
  | [] => rfl
  | c :: cs => by
    show (typedD S (.int c) && typedL S (cs.map D.int)) = true
    rw [typed_ints S cs]
    rfl
theorem typed_app {S : Sto} : ∀ {a b : List D}, typedL S a = true → typedL S b = true → typedL S (a ++ b) = true
  | [], _, _, h => h
  | x :: a, b, h, k => by
    have h' : (typedD S x && typedL S a) = true := h
    rw [Bool.and_eq_true] at h'
    show (typedD S x && typedL S (a ++ b)) = true
    rw [h'.1, typed_app h'.2 k]
    rfl
theorem intsOf_map : ∀ cs : List Int, intsOf (cs.map D.int) = some cs
  | [] => rfl
  | c :: cs => by
    show (intsOf (cs.map D.int)).map (c :: ·) = _
    rw [intsOf_map cs]
    rfl
/-- a bad count in a drawn place -/
def badD (far : Int) : List D := [.int (-1), .int 5, .int (5 + far), .int (-1 - far), .bl true, .bl false, .str "1", .non, .tup [.int 1], .lst [.int 1]]
theorem bad_all (S : Sto) (far : Int) (h : 0 ≤ far) : ∀ b ∈ badD far, typedD S b = true ∧ (isCnt b && leD b) = false := by
  intro b hb
  simp only [badD, List.mem_cons, List.not_mem_nil, or_false] at hb
  rcases hb with e | e | e | e | e | e | e | e | e | e <;> subst e
  · exact ⟨rfl, rfl⟩
  · exact ⟨rfl, rfl⟩
  · refine ⟨rfl, ?_⟩
    show (_ && decide (5 + far ≤ 4)) = false
    rw [decide_eq_false (by omega), Bool.and_false]
  · refine ⟨rfl, ?_⟩
    show (decide (0 ≤ -1 - far) && _) = false
    rw [decide_eq_false (by omega), Bool.false_and]
  all_goals exact ⟨rfl, rfl⟩
theorem spoilt_spec (ns : List Int) (n : Nat) (S S0 : Sto) (c : Cell) (hc : S[n]? = some c) (hS : DeckS ns n S S0) (k : Int) (cs : List Int) (hk : 1 ≤ k ∧ k ≤ 5) (hl : 1 ≤ cs.length ∧ cs.length ≤ 5) (hcs : ∀ z ∈ cs, 0 ≤ z ∧ z ≤ 4) :
    ∃ (ts : List D) (S1 : Sto) (J : Cell), f__law_e_spoilt [.ref n, .tup [.int k, .tup (cs.map D.int)]] S0 = .ok (.lst ts) (S1 ++ [J]) ∧ DeckS ns n S S1 ∧ ∀ t ∈ ts, typedD (S1 ++ [J]) t = true ∧ isCounted t = false := by
  obtain ⟨far, S1, a1, b1, e1, hS1⟩ := hS.pick hc (many := 100000000000000000000) (by decide) (by decide)
  obtain ⟨at', S2, a2, b2, e2, hS2⟩ := hS1.pick hc (many := cs.length) (by omega) (by omega)
  obtain ⟨w, S3, a3, b3, e3, hS3⟩ := hS2.pick hc (many := 10) (by decide) (by decide)
  obtain ⟨bad, hbad⟩ : ∃ bad, (badD far)[w.toNat]? = some bad := ⟨_, List.getElem?_eq_getElem (by show w.toNat < 10; omega)⟩
  have hb := bad_all S3 far a1 bad (List.mem_of_getElem? hbad)
  have pw : ∀ T, oPow T (.int 10) (.int 20) = some (.int 100000000000000000000) := fun _ => rfl
  have hlen : (cs.map D.int).length = cs.length := List.length_map _
  have hat : atI (badD far) w = some bad := at_nat a3 hbad
  obtain ⟨sk, hsk⟩ : ∃ sk : Str, oStrC S3 [.int k] = some (.str sk) := ⟨_, by
    unfold oStrC
    dsimp only
    exact if_pos (Nat.lt_of_lt_of_le (show k.natAbs < 2 ^ 3 by omega) (Nat.pow_le_pow_right (by decide) (by decide)))⟩
  -- the things
  obtain ⟨T, hT⟩ : ∃ T, T = D.tup (cs.map D.int) := ⟨_, rfl⟩
  obtain ⟨six, hsix⟩ : ∃ six : List D, six = [.tup [.int 0, T], .tup [.int 6, T], .tup [.int (-k), T], .tup [.int (6 + far), T], .tup [.bl true, T], .tup [.str sk, T]] := ⟨_, rfl⟩
  obtain ⟨more, hmore⟩ : ∃ more : List D, more = [.tup [.int k, .tup []], .tup [.int k, .tup [.int 1, .int 1, .int 1, .int 1, .int 1, .int 1]], .tup [.int k, .lst (cs.map D.int)], .tup [.int k, .non], .tup [.int k, .int cs.sum], .lst [.int k, T]] := ⟨_, rfl⟩
  obtain ⟨put, hput⟩ : ∃ put, put = (cs.map D.int).take at'.toNat ++ [bad] ++ (cs.map D.int).drop (at' + 1).toNat := ⟨_, rfl⟩
  have hputl : put.length ≤ 5 ∧ 1 ≤ put.length := by
    rw [hput]
    simp only [List.length_append, List.length_take, List.length_drop, List.length_cons, List.length_nil, hlen]
    omega
  obtain ⟨last, hlast⟩ : ∃ last : List D, last = [.tup [.int k], .tup [.int k, T, .tup []], .tup [T, .int k], .tup [.int k, .tup put], .tup [.int k, .tup [T]]] := ⟨_, rfl⟩
  obtain ⟨six7, h7⟩ : ∃ six7 : List D, six7 = six ++ [.tup [.non, T]] := ⟨_, rfl⟩
  have d0 : oTuple S3 [T] = some T := by rw [hT]; rfl
  refine ⟨six7 ++ more ++ last, S3, .lst six7, fun0_rt (env := [some (.ref n), some (.tup [.int k, T]), some (.int k), some T, some (.int far), some (.int at'), some bad, some (.lst (six7 ++ more ++ last))]) ?_, hS3, ?_⟩
  · unfold d__law_e_spoilt
    refine (seq_nx (env' := [some (.ref n), some (.tup [.int k, T]), some (.int k), some T, none, none, none, none]) (S' := S0) (by rw [hT]; rfl)).trans ?_
    refine (seq_nx (env' := [some (.ref n), some (.tup [.int k, T]), some (.int k), some T, some (.int far), none, none, none]) (S' := S1) (by simp only [sSeq, sIf, sRet, sSet, sExpr, sAsg, sFl, sNil, sFor, dBin, dC, dCall, dCallF, aCons, aNil, dTst, dNot, dAnd, dOr, bAnd, bOr, bNot, dChain, dUn, dTup, dLst, dCell, dIf, iSeq, iRange1, iRange2, dVar, gN, gTupD, gsCons, gsNil, dSl, oNo, oSo, asI, dComp, wipeE, Out.bind_ok, Out.bind_exc, Out.bind_bad, lift_some, lift_none, asB_bl, add_ii, sub_ii, neg_i, lt_ii, le_ii, gt_ii, ge_ii, eq_ii, ne_ii, eq_ss, ne_ss, isnot_bb, is_bb, is_non, isnot_non, ix_tupD, ix_lstD, ix_fzD, at_lit0, at_lit1, at_lit2, at_lit3, len_fz, len_lst, len_tup, itemsOf, List.map_cons, List.map_nil, List.length_cons, List.length_nil, List.getElem?_cons_zero, List.getElem?_cons_succ, List.set_cons_zero, List.set_cons_succ, List.cons_append, List.nil_append, List.replicate_succ, List.replicate_zero, Nat.reduceSub, Nat.reduceAdd, if_true, if_false, Bool.false_eq_true, Bool.true_eq_false, Bool.not_true, Bool.not_false, Option.bind_some, Option.map_some, Nat.zero_add, ite_true, ite_false, pw, e1])).trans ?_
    have lT : oLen S1 [T] = some (.int cs.length) := by rw [hT, len_tup, hlen]
    refine (seq_nx (env' := [some (.ref n), some (.tup [.int k, T]), some (.int k), some T, some (.int far), some (.int at'), none, none]) (S' := S2) (by simp only [sSeq, sIf, sRet, sSet, sExpr, sAsg, sFl, sNil, sFor, dBin, dC, dCall, dCallF, aCons, aNil, dTst, dNot, dAnd, dOr, bAnd, bOr, bNot, dChain, dUn, dTup, dLst, dCell, dIf, iSeq, iRange1, iRange2, dVar, gN, gTupD, gsCons, gsNil, dSl, oNo, oSo, asI, dComp, wipeE, Out.bind_ok, Out.bind_exc, Out.bind_bad, lift_some, lift_none, asB_bl, add_ii, sub_ii, neg_i, lt_ii, le_ii, gt_ii, ge_ii, eq_ii, ne_ii, eq_ss, ne_ss, isnot_bb, is_bb, is_non, isnot_non, ix_tupD, ix_lstD, ix_fzD, at_lit0, at_lit1, at_lit2, at_lit3, len_fz, len_lst, len_tup, itemsOf, List.map_cons, List.map_nil, List.length_cons, List.length_nil, List.getElem?_cons_zero, List.getElem?_cons_succ, List.set_cons_zero, List.set_cons_succ, List.cons_append, List.nil_append, List.replicate_succ, List.replicate_zero, Nat.reduceSub, Nat.reduceAdd, if_true, if_false, Bool.false_eq_true, Bool.true_eq_false, Bool.not_true, Bool.not_false, Option.bind_some, Option.map_some, Nat.zero_add, ite_true, ite_false, lT, e2])).trans ?_
    refine (seq_nx (env' := [some (.ref n), some (.tup [.int k, T]), some (.int k), some T, some (.int far), some (.int at'), some bad, none]) (S' := S3) ?_).trans ?_
    · have hat2 : atI [D.int (-1), .int 5, .int (5 + far), .int (-1 - far), .bl true, .bl false, .str "1", .non, .tup [.int 1], .lst [.int 1]] w = some bad := hat
      simp only [sSeq, sIf, sRet, sSet, sExpr, sAsg, sFl, sNil, sFor, dBin, dC, dCall, dCallF, aCons, aNil, dTst, dNot, dAnd, dOr, bAnd, bOr, bNot, dChain, dUn, dTup, dLst, dCell, dIf, iSeq, iRange1, iRange2, dVar, gN, gTupD, gsCons, gsNil, dSl, oNo, oSo, asI, dComp, wipeE, Out.bind_ok, Out.bind_exc, Out.bind_bad, lift_some, lift_none, asB_bl, add_ii, sub_ii, neg_i, lt_ii, le_ii, gt_ii, ge_ii, eq_ii, ne_ii, eq_ss, ne_ss, isnot_bb, is_bb, is_non, isnot_non, ix_tupD, ix_lstD, ix_fzD, at_lit0, at_lit1, at_lit2, at_lit3, len_fz, len_lst, len_tup, itemsOf, List.map_cons, List.map_nil, List.length_cons, List.length_nil, List.getElem?_cons_zero, List.getElem?_cons_succ, List.set_cons_zero, List.set_cons_succ, List.cons_append, List.nil_append, List.replicate_succ, List.replicate_zero, Nat.reduceSub, Nat.reduceAdd, if_true, if_false, Bool.false_eq_true, Bool.true_eq_false, Bool.not_true, Bool.not_false, Option.bind_some, Option.map_some, Nat.zero_add, ite_true, ite_false, e3, if_pos (show (10 : Nat) ≤ sizeLine by decide), if_pos (show (1 : Nat) ≤ sizeLine by decide), hat2]
    refine (seq_nx (env' := [some (.ref n), some (.tup [.int k, T]), some (.int k), some T, some (.int far), some (.int at'), some bad, some (.ref S3.length)]) (S' := S3 ++ [.lst six]) ?_).trans ?_
    · simp only [sSeq, sIf, sRet, sSet, sExpr, sAsg, sFl, sNil, sFor, dBin, dC, dCall, dCallF, aCons, aNil, dTst, dNot, dAnd, dOr, bAnd, bOr, bNot, dChain, dUn, dTup, dLst, dCell, dIf, iSeq, iRange1, iRange2, dVar, gN, gTupD, gsCons, gsNil, dSl, oNo, oSo, asI, dComp, wipeE, Out.bind_ok, Out.bind_exc, Out.bind_bad, lift_some, lift_none, asB_bl, add_ii, sub_ii, neg_i, lt_ii, le_ii, gt_ii, ge_ii, eq_ii, ne_ii, eq_ss, ne_ss, isnot_bb, is_bb, is_non, isnot_non, ix_tupD, ix_lstD, ix_fzD, at_lit0, at_lit1, at_lit2, at_lit3, len_fz, len_lst, len_tup, itemsOf, List.map_cons, List.map_nil, List.length_cons, List.length_nil, List.getElem?_cons_zero, List.getElem?_cons_succ, List.set_cons_zero, List.set_cons_succ, List.cons_append, List.nil_append, List.replicate_succ, List.replicate_zero, Nat.reduceSub, Nat.reduceAdd, if_true, if_false, Bool.false_eq_true, Bool.true_eq_false, Bool.not_true, Bool.not_false, Option.bind_some, Option.map_some, Nat.zero_add, ite_true, ite_false, hsk, if_pos (show (2 : Nat) ≤ sizeLine by decide), if_pos (show (6 : Nat) ≤ sizeLine by decide), hsix]
    have g0 : (S3 ++ [Cell.lst six])[S3.length]? = some (.lst six) := by rw [List.getElem?_append_right (Nat.le_refl _), Nat.sub_self]; rfl
    have g1 : (S3 ++ [Cell.lst six]).set S3.length (.lst six7) = S3 ++ [.lst six7] := by
      rw [List.set_append_right _ _ (Nat.le_refl _), Nat.sub_self]; rfl
    refine (seq_nx (env' := [some (.ref n), some (.tup [.int k, T]), some (.int k), some T, some (.int far), some (.int at'), some bad, some (.ref S3.length)]) (S' := S3 ++ [.lst six7]) ?_).trans ?_
    · have ea := append_ref (fo := dVar 7) (fa := dTup (aCons (dC .non) (aCons (dVar 3) aNil))) (env := [some (.ref n), some (.tup [.int k, T]), some (.int k), some T, some (.int far), some (.int at'), some bad, some (.ref S3.length)]) (S := S3 ++ [.lst six]) (y := .tup [.non, T]) rfl g0
        (by simp only [sSeq, sIf, sRet, sSet, sExpr, sAsg, sFl, sNil, sFor, dBin, dC, dCall, dCallF, aCons, aNil, dTst, dNot, dAnd, dOr, bAnd, bOr, bNot, dChain, dUn, dTup, dLst, dCell, dIf, iSeq, iRange1, iRange2, dVar, gN, gTupD, gsCons, gsNil, dSl, oNo, oSo, asI, dComp, wipeE, Out.bind_ok, Out.bind_exc, Out.bind_bad, lift_some, lift_none, asB_bl, add_ii, sub_ii, neg_i, lt_ii, le_ii, gt_ii, ge_ii, eq_ii, ne_ii, eq_ss, ne_ss, isnot_bb, is_bb, is_non, isnot_non, ix_tupD, ix_lstD, ix_fzD, at_lit0, at_lit1, at_lit2, at_lit3, len_fz, len_lst, len_tup, itemsOf, List.map_cons, List.map_nil, List.length_cons, List.length_nil, List.getElem?_cons_zero, List.getElem?_cons_succ, List.set_cons_zero, List.set_cons_succ, List.cons_append, List.nil_append, List.replicate_succ, List.replicate_zero, Nat.reduceSub, Nat.reduceAdd, if_true, if_false, Bool.false_eq_true, Bool.true_eq_false, Bool.not_true, Bool.not_false, Option.bind_some, Option.map_some, Nat.zero_add, ite_true, ite_false, if_pos (show (2 : Nat) ≤ sizeLine by decide)]) g0 (by rw [hsix]; show (6 : Nat) < sizeLine; decide)
      rw [← h7, g1] at ea
      simp only [sExpr, ea, Out.bind_ok]
    have g2 : (S3 ++ [Cell.lst six7])[S3.length]? = some (.lst six7) := by rw [List.getElem?_append_right (Nat.le_refl _), Nat.sub_self]; rfl
    have l7 : six7.length = 7 := by rw [h7, hsix]; rfl
    have lm : more.length = 6 := by rw [hmore]; rfl
    have add1 : oAdd (S3 ++ [.lst six7]) (.ref S3.length) (.lst more) = some (.lst (six7 ++ more)) := by
      refine (orO_none rfl).trans (orO_some ?_)
      unfold oAddL
      rw [lst_ref g2]
      show (if six7.length + more.length ≤ sizeLine then _ else none) = _
      rw [l7, lm, if_pos (by decide)]
    have os : oSum (S3 ++ [.lst six7]) [T] = some (.int cs.sum) := by
      rw [hT]
      show orC oSumT oSumL _ _ = _
      unfold orC oSumT
      dsimp only
      rw [intsOf_map]
      rfl
    have ol : oListC (S3 ++ [.lst six7]) [T] = some (.lst (cs.map D.int)) := by rw [hT]; rfl
    refine (seq_nx (env' := [some (.ref n), some (.tup [.int k, T]), some (.int k), some T, some (.int far), some (.int at'), some bad, some (.lst (six7 ++ more))]) (S' := S3 ++ [.lst six7]) ?_).trans ?_
    · simp only [sSeq, sIf, sRet, sSet, sExpr, sAsg, sFl, sNil, sFor, dBin, dC, dCall, dCallF, aCons, aNil, dTst, dNot, dAnd, dOr, bAnd, bOr, bNot, dChain, dUn, dTup, dLst, dCell, dIf, iSeq, iRange1, iRange2, dVar, gN, gTupD, gsCons, gsNil, dSl, oNo, oSo, asI, dComp, wipeE, Out.bind_ok, Out.bind_exc, Out.bind_bad, lift_some, lift_none, asB_bl, add_ii, sub_ii, neg_i, lt_ii, le_ii, gt_ii, ge_ii, eq_ii, ne_ii, eq_ss, ne_ss, isnot_bb, is_bb, is_non, isnot_non, ix_tupD, ix_lstD, ix_fzD, at_lit0, at_lit1, at_lit2, at_lit3, len_fz, len_lst, len_tup, itemsOf, List.map_cons, List.map_nil, List.length_cons, List.length_nil, List.getElem?_cons_zero, List.getElem?_cons_succ, List.set_cons_zero, List.set_cons_succ, List.cons_append, List.nil_append, List.replicate_succ, List.replicate_zero, Nat.reduceSub, Nat.reduceAdd, if_true, if_false, Bool.false_eq_true, Bool.true_eq_false, Bool.not_true, Bool.not_false, Option.bind_some, Option.map_some, Nat.zero_add, ite_true, ite_false, os, ol, if_pos (show (2 : Nat) ≤ sizeLine by decide), if_pos (show (6 : Nat) ≤ sizeLine by decide), if_pos (show (0 : Nat) ≤ sizeLine by decide), ← hmore, lm, if_pos (show (6 : Nat) ≤ sizeLine by decide), add1]
    have ll : last.length = 5 := by rw [hlast]; rfl
    have add2 : oAdd (S3 ++ [.lst six7]) (.lst (six7 ++ more)) (.lst last) = some (.lst (six7 ++ more ++ last)) := by
      refine (orO_none rfl).trans (orO_some ?_)
      show (if (six7 ++ more).length + last.length ≤ sizeLine then some (D.lst (six7 ++ more ++ last)) else none) = _
      rw [List.length_append, l7, lm, ll, if_pos (by decide)]
    have s1 : oSl (S3 ++ [.lst six7]) T none (some at') = some (.tup ((cs.map D.int).take at'.toNat)) := by
      rw [hT, ← cut_lo _ _ a2 (by omega)]; rfl
    have s2 : oSl (S3 ++ [.lst six7]) T (some (at' + 1)) none = some (.tup ((cs.map D.int).drop (at' + 1).toNat)) := by
      rw [hT, ← cut_hi _ _ (by omega) (by omega)]; rfl
    have t1 : oAdd (S3 ++ [.lst six7]) (.tup ((cs.map D.int).take at'.toNat)) (.tup [bad]) = some (.tup ((cs.map D.int).take at'.toNat ++ [bad])) := by
      refine (orO_none rfl).trans ((orO_none rfl).trans (orO_some ?_))
      show (if ((cs.map D.int).take at'.toNat).length + 1 ≤ sizeLine then _ else none) = _
      rw [if_pos]
      rw [List.length_take, hlen, sizeLine_eq]; omega
    have t2 : oAdd (S3 ++ [.lst six7]) (.tup ((cs.map D.int).take at'.toNat ++ [bad])) (.tup ((cs.map D.int).drop (at' + 1).toNat)) = some (.tup put) := by
      refine (orO_none rfl).trans ((orO_none rfl).trans (orO_some ?_))
      show (if ((cs.map D.int).take at'.toNat ++ [bad]).length + ((cs.map D.int).drop (at' + 1).toNat).length ≤ sizeLine then some (D.tup ((cs.map D.int).take at'.toNat ++ [bad] ++ (cs.map D.int).drop (at' + 1).toNat)) else none) = _
      rw [if_pos, hput]
      rw [List.length_append, List.length_take, List.length_drop, hlen, sizeLine_eq]; simp only [List.length_cons, List.length_nil]; omega
    refine (seq_nx (env' := [some (.ref n), some (.tup [.int k, T]), some (.int k), some T, some (.int far), some (.int at'), some bad, some (.lst (six7 ++ more ++ last))]) (S' := S3 ++ [.lst six7]) ?_).trans ?_
    · simp only [sSeq, sIf, sRet, sSet, sExpr, sAsg, sFl, sNil, sFor, dBin, dC, dCall, dCallF, aCons, aNil, dTst, dNot, dAnd, dOr, bAnd, bOr, bNot, dChain, dUn, dTup, dLst, dCell, dIf, iSeq, iRange1, iRange2, dVar, gN, gTupD, gsCons, gsNil, dSl, oNo, oSo, asI, dComp, wipeE, Out.bind_ok, Out.bind_exc, Out.bind_bad, lift_some, lift_none, asB_bl, add_ii, sub_ii, neg_i, lt_ii, le_ii, gt_ii, ge_ii, eq_ii, ne_ii, eq_ss, ne_ss, isnot_bb, is_bb, is_non, isnot_non, ix_tupD, ix_lstD, ix_fzD, at_lit0, at_lit1, at_lit2, at_lit3, len_fz, len_lst, len_tup, itemsOf, List.map_cons, List.map_nil, List.length_cons, List.length_nil, List.getElem?_cons_zero, List.getElem?_cons_succ, List.set_cons_zero, List.set_cons_succ, List.cons_append, List.nil_append, List.replicate_succ, List.replicate_zero, Nat.reduceSub, Nat.reduceAdd, if_true, if_false, Bool.false_eq_true, Bool.true_eq_false, Bool.not_true, Bool.not_false, Option.bind_some, Option.map_some, Nat.zero_add, ite_true, ite_false, s1, s2, t1, t2, if_pos (show (3 : Nat) ≤ sizeLine by decide), if_pos (show (2 : Nat) ≤ sizeLine by decide), if_pos (show (5 : Nat) ≤ sizeLine by decide), if_pos (show (1 : Nat) ≤ sizeLine by decide), if_pos (show (0 : Nat) ≤ sizeLine by decide), ← hlast, ll, if_pos (show (5 : Nat) ≤ sizeLine by decide), add2]
    · rfl
  · -- each of them is none
    have tT : typedD (S3 ++ [.lst six7]) T = true := by rw [hT]; exact typed_ints _ cs
    have tb : typedD (S3 ++ [.lst six7]) bad = true := (bad_all _ far a1 bad (List.mem_of_getElem? hbad)).1
    have tL : typedL (S3 ++ [.lst six7]) (cs.map D.int) = true := typed_ints _ cs
    have tput : typedL (S3 ++ [.lst six7]) put = true := by
      rw [hput]
      refine typed_app (typed_app ?_ (by show (typedD _ bad && true) = true; rw [tb]; rfl)) ?_
      · rw [← List.map_take]; exact typed_ints _ _
      · rw [← List.map_drop]; exact typed_ints _ _
    intro t ht
    rw [h7, hsix, hmore, hlast] at ht
    simp only [List.mem_append, List.mem_cons, List.not_mem_nil, or_false] at ht
    have ty2 : ∀ a b, typedD (S3 ++ [.lst six7]) (.tup [a, b]) = (typedD (S3 ++ [.lst six7]) a && (typedD (S3 ++ [.lst six7]) b && true)) := fun _ _ => rfl
    rcases ht with (((e | e | e | e | e | e) | e) | e | e | e | e | e | e) | e | e | e | e | e <;> subst e
    · exact ⟨by rw [ty2, tT]; rfl, by rw [hT]; rfl⟩
    · exact ⟨by rw [ty2, tT]; rfl, by rw [hT]; rfl⟩
    · refine ⟨by rw [ty2, tT]; rfl, ?_⟩
      rw [hT]
      show (decide (0 ≤ -k) && _) = false
      rw [decide_eq_false (by omega), Bool.false_and]
    · refine ⟨by rw [ty2, tT]; rfl, ?_⟩
      rw [hT]
      simp only [isCounted, decide_eq_false (show ¬ 6 + far ≤ 5 by omega), Bool.and_false, Bool.false_and]
    · exact ⟨by rw [ty2, tT]; rfl, by rw [hT]; rfl⟩
    · exact ⟨by rw [ty2, tT]; rfl, by rw [hT]; rfl⟩
    · exact ⟨by rw [ty2, tT]; rfl, by rw [hT]; rfl⟩
    · refine ⟨rfl, ?_⟩
      simp only [isCounted, List.length_nil, decide_eq_false (show ¬ 1 ≤ 0 by omega), Bool.and_false, Bool.false_and]
    · refine ⟨rfl, ?_⟩
      simp only [isCounted, List.length_cons, List.length_nil, decide_eq_false (show ¬ 0 + 1 + 1 + 1 + 1 + 1 + 1 ≤ 5 by omega), Bool.and_false, Bool.false_and]
    · exact ⟨by rw [ty2]; show (true && (typedL (S3 ++ [.lst six7]) (cs.map D.int) && true)) = true; rw [tL]; rfl, rfl⟩
    · exact ⟨rfl, rfl⟩
    · exact ⟨rfl, rfl⟩
    · exact ⟨by show (typedD (S3 ++ [.lst six7]) (.int k) && (typedD (S3 ++ [.lst six7]) T && true)) = true; rw [tT]; rfl, rfl⟩
    · exact ⟨rfl, rfl⟩
    · exact ⟨by show (typedD (S3 ++ [.lst six7]) (.int k) && (typedD (S3 ++ [.lst six7]) T && (typedD (S3 ++ [.lst six7]) (.tup []) && true))) = true; rw [tT]; rfl, by rw [hT]; rfl⟩
    · exact ⟨by rw [ty2, tT]; rfl, by rw [hT]; rfl⟩
    · refine ⟨by rw [ty2]; show (true && (typedL (S3 ++ [.lst six7]) put && true)) = true; rw [tput]; rfl, ?_⟩
      have : (put.all fun c => isCnt c && leD c) = false := by
        rw [List.all_eq_false]
        refine ⟨bad, by rw [hput]; simp, ?_⟩
        rw [hb.2]
        exact Bool.false_ne_true
      simp only [isCounted, this, Bool.and_false]
    · refine ⟨by rw [ty2]; show (true && ((typedD (S3 ++ [.lst six7]) T && true) && true)) = true; rw [tT]; rfl, ?_⟩
      rw [hT]
      simp only [isCounted, List.all_cons, isCnt, Bool.false_and, Bool.and_false]
end G
end DL
end L2

set_option Elab.async false
set_option linter.all false
set_option maxRecDepth 100000
namespace L2
namespace DL
open PySem PySem.Spec PyProof.Rows
namespace G
theorem law_true (ns : List Int) (hn : ns.length ≤ 63) : ∃ S, f_law [.fz (ns.map D.int)] [] = .ok (.bl true) S := by
  have hlen : (ns.map D.int).length = ns.length := List.length_map _
  -- between two rounds
  obtain ⟨I, hI⟩ : ∃ I : Ev → Sto → Prop, I = fun env S => env.length = 6 ∧ env[0]? = some (some (.fz (ns.map D.int))) ∧ env[1]? = some (some (.ref 0)) ∧ ∃ p q, 0 ≤ p ∧ 0 ≤ q ∧ S[0]? = some (deckC ns p q) := ⟨_, rfl⟩
  have start : I [some (.fz (ns.map D.int)), some (.ref 0), none, none, none, none] [deckC ns 0 0] := by
    rw [hI]; exact ⟨rfl, rfl, rfl, 0, 0, by decide, by decide, rfl⟩
  obtain ⟨env1, S1, e1, hI1⟩ := forGo_inv (g := gN 2) (b := (sSeq (sIf (bAnd (dTst (dBin oGt (dVar 2) (dC (.int 1)))) (dTst (dBin oGe (dBin oIx (dVar 1) (dC (.int 1))) (dCall oLen (aCons (dVar 0) aNil)))))
  (sFl .bk)
  sNil)
  (sSeq (sSet 3 (dCallF f__law_e_meeting (aCons (dVar 1) (aCons (dC (.bl true)) aNil))))
  (sSeq (sFor (iRange1 (aCons (dC (.int 2)) aNil)) (gN 4)
  (sIf (dTst (dBin oIsNot (dCallF f_is_counted (aCons (dVar 3) aNil)) (dC (.bl true))))
  (sRet (dC (.bl false)))
  sNil))
  (sFor (iSeq (dCallF f__law_e_spoilt (aCons (dVar 1) (aCons (dVar 3) aNil)))) (gN 5)
  (sIf (dTst (dBin oIsNot (dCallF f_is_counted (aCons (dVar 5) aNil)) (dC (.bl false))))
  (sRet (dC (.bl false)))
  sNil)))))) I (rngL 0 6) [some (.fz (ns.map D.int)), some (.ref 0), none, none, none, none] [deckC ns 0 0] start (fun d hd env S hIS => by
    rw [hI] at hIS
    obtain ⟨h6, h0, h1, p, q, hp, hq, hS⟩ := hIS
    obtain ⟨j, hj, ed⟩ := List.getElem_of_mem hd
    obtain ⟨_, ed2⟩ := rng_get (lo := 0) (n := 6) (i := j) (d := d) (by rw [List.getElem?_eq_getElem hj, ed])
    obtain ⟨k, hk⟩ : ∃ k : Int, d = .int k := ⟨_, ed2⟩
    subst hk
    have n20 : (2 : Nat) ≠ 0 := by decide
    have n21 : (2 : Nat) ≠ 1 := by decide
    have g2 : (env.set 2 (some (D.int k)))[2]? = some (some (.int k)) := List.getElem?_set_self (by omega)
    have g0 : (env.set 2 (some (D.int k)))[0]? = some (some (.fz (ns.map D.int))) := (List.getElem?_set_ne n20).trans h0
    have g1 : (env.set 2 (some (D.int k)))[1]? = some (some (.ref 0)) := (List.getElem?_set_ne n21).trans h1
    have g6 : (env.set 2 (some (D.int k))).length = 6 := by rw [List.length_set]; exact h6
    have gn : gN 2 env (.int k) = some (env.set 2 (some (D.int k))) := rfl
    generalize env.set 2 (some (D.int k)) = env2 at g2 g0 g1 g6 gn
    by_cases hc : 1 < k ∧ (ns.length : Int) ≤ p
    · refine ⟨env2, .bk, env2, S, gn, ?_, by rw [hI]; exact ⟨g6, g0, g1, p, q, hp, hq, hS⟩, .inr rfl⟩
      refine seq_fl ((if_t (S' := S) ?_).trans rfl) (fun z => nomatch z)
      simp only [sSeq, sIf, sRet, sSet, sExpr, sAsg, sFl, sNil, sFor, dBin, dC, dCall, dCallF, aCons, aNil, dTst, dNot, dAnd, dOr, bAnd, bOr, bNot, dChain, dUn, dTup, dLst, dCell, dIf, iSeq, iRange1, iRange2, dVar, gN, gTupD, gsCons, gsNil, dSl, oNo, oSo, asI, dComp, wipeE, Out.bind_ok, Out.bind_exc, Out.bind_bad, lift_some, lift_none, asB_bl, add_ii, sub_ii, neg_i, lt_ii, le_ii, gt_ii, ge_ii, eq_ii, ne_ii, eq_ss, ne_ss, isnot_bb, is_bb, is_non, isnot_non, ix_tupD, ix_lstD, ix_fzD, at_lit0, at_lit1, at_lit2, at_lit3, len_fz, len_lst, len_tup, itemsOf, List.map_cons, List.map_nil, List.length_cons, List.length_nil, List.getElem?_cons_zero, List.getElem?_cons_succ, List.set_cons_zero, List.set_cons_succ, List.cons_append, List.nil_append, List.replicate_succ, List.replicate_zero, Nat.reduceSub, Nat.reduceAdd, if_true, if_false, Bool.false_eq_true, Bool.true_eq_false, Bool.not_true, Bool.not_false, Option.bind_some, Option.map_some, Nat.zero_add, ite_true, ite_false, g2, g1, g0, ix_refD hS, hlen, decide_eq_true hc.1, decide_eq_true hc.2]
    · -- a round
      obtain ⟨kk, cs, S2, em, ⟨p2, q2, hp2, hq2, eS2⟩, k1, k5, l1, l5, hcs⟩ := meeting_spec ns 0 S S _ hS ⟨p, q, hp, hq, (set_same hS).symm⟩ true
      have hcs' : ∀ z ∈ cs, 0 ≤ z ∧ z ≤ 4 := hcs
      obtain ⟨ts, S3, J, es, ⟨p3, q3, hp3, hq3, eS3⟩, hts⟩ := spoilt_spec ns 0 S S2 _ hS ⟨p2, q2, hp2, hq2, eS2⟩ kk cs ⟨k1, k5⟩ ⟨l1, l5⟩ hcs'
      have hS2 : S2[0]? = some (deckC ns p2 q2) := by rw [eS2]; exact set_get hS
      have hS3 : (S3 ++ [J])[0]? = some (deckC ns p3 q3) := by
        have h3 : S3[0]? = some (deckC ns p3 q3) := by rw [eS3]; exact set_get hS
        rw [List.getElem?_append_left (List.getElem?_eq_some_iff.mp h3).1]
        exact h3
      obtain ⟨M, hM⟩ : ∃ M, M = D.tup [.int kk, .tup (cs.map D.int)] := ⟨_, rfl⟩
      have cM : f_is_counted [M] S2 = .ok (.bl true) S2 := by
        have tM : typedD S2 M = true := by
          rw [hM]
          show (true && (typedL S2 (cs.map D.int) && true)) = true
          rw [typed_ints]; rfl
        have := counted_spec tM
        rw [this]
        have e : isCounted M = true := by
          rw [hM]
          have ea : ((cs.map D.int).all fun c => isCnt c && leD c) = true := by
            rw [List.all_eq_true]
            intro x hx
            obtain ⟨z, hz, e⟩ := List.mem_map.mp hx
            subst e
            show (decide (0 ≤ z) && decide (z ≤ 4)) = true
            rw [decide_eq_true (hcs' z hz).1, decide_eq_true (hcs' z hz).2]; rfl
          have hl2 : (cs.map D.int).length = cs.length := List.length_map _
          have hk0 : isCnt (.int kk) = true := decide_eq_true (show 0 ≤ kk by omega)
          simp only [isCounted, ea, hk0, hl2, decide_eq_true k1, decide_eq_true k5, decide_eq_true l1, decide_eq_true l5, Bool.and_true]
        rw [e]
      have m3 : (env2.set 3 (some M))[3]? = some (some M) := List.getElem?_set_self (by omega)
      have m0 : (env2.set 3 (some M))[0]? = some (some (.fz (ns.map D.int))) := (List.getElem?_set_ne (by decide)).trans g0
      have m1 : (env2.set 3 (some M))[1]? = some (some (.ref 0)) := (List.getElem?_set_ne (by decide)).trans g1
      have m6 : (env2.set 3 (some M)).length = 6 := by rw [List.length_set]; exact g6
      have st1 : (sIf (bAnd (dTst (dBin oGt (dVar 2) (dC (.int 1)))) (dTst (dBin oGe (dBin oIx (dVar 1) (dC (.int 1))) (dCall oLen (aCons (dVar 0) aNil))))) (sFl .bk) sNil) env2 S = .ok (.nx, env2) S := by
        refine (if_f (S' := S) ?_).trans rfl
        by_cases c1 : 1 < k
        · have c2 : ¬ (ns.length : Int) ≤ p := fun z => hc ⟨c1, z⟩
          simp only [sSeq, sIf, sRet, sSet, sExpr, sAsg, sFl, sNil, sFor, dBin, dC, dCall, dCallF, aCons, aNil, dTst, dNot, dAnd, dOr, bAnd, bOr, bNot, dChain, dUn, dTup, dLst, dCell, dIf, iSeq, iRange1, iRange2, dVar, gN, gTupD, gsCons, gsNil, dSl, oNo, oSo, asI, dComp, wipeE, Out.bind_ok, Out.bind_exc, Out.bind_bad, lift_some, lift_none, asB_bl, add_ii, sub_ii, neg_i, lt_ii, le_ii, gt_ii, ge_ii, eq_ii, ne_ii, eq_ss, ne_ss, isnot_bb, is_bb, is_non, isnot_non, ix_tupD, ix_lstD, ix_fzD, at_lit0, at_lit1, at_lit2, at_lit3, len_fz, len_lst, len_tup, itemsOf, List.map_cons, List.map_nil, List.length_cons, List.length_nil, List.getElem?_cons_zero, List.getElem?_cons_succ, List.set_cons_zero, List.set_cons_succ, List.cons_append, List.nil_append, List.replicate_succ, List.replicate_zero, Nat.reduceSub, Nat.reduceAdd, if_true, if_false, Bool.false_eq_true, Bool.true_eq_false, Bool.not_true, Bool.not_false, Option.bind_some, Option.map_some, Nat.zero_add, ite_true, ite_false, g2, g1, g0, ix_refD hS, hlen, decide_eq_true c1, decide_eq_false c2]
        · simp only [sSeq, sIf, sRet, sSet, sExpr, sAsg, sFl, sNil, sFor, dBin, dC, dCall, dCallF, aCons, aNil, dTst, dNot, dAnd, dOr, bAnd, bOr, bNot, dChain, dUn, dTup, dLst, dCell, dIf, iSeq, iRange1, iRange2, dVar, gN, gTupD, gsCons, gsNil, dSl, oNo, oSo, asI, dComp, wipeE, Out.bind_ok, Out.bind_exc, Out.bind_bad, lift_some, lift_none, asB_bl, add_ii, sub_ii, neg_i, lt_ii, le_ii, gt_ii, ge_ii, eq_ii, ne_ii, eq_ss, ne_ss, isnot_bb, is_bb, is_non, isnot_non, ix_tupD, ix_lstD, ix_fzD, at_lit0, at_lit1, at_lit2, at_lit3, len_fz, len_lst, len_tup, itemsOf, List.map_cons, List.map_nil, List.length_cons, List.length_nil, List.getElem?_cons_zero, List.getElem?_cons_succ, List.set_cons_zero, List.set_cons_succ, List.cons_append, List.nil_append, List.replicate_succ, List.replicate_zero, Nat.reduceSub, Nat.reduceAdd, if_true, if_false, Bool.false_eq_true, Bool.true_eq_false, Bool.not_true, Bool.not_false, Option.bind_some, Option.map_some, Nat.zero_add, ite_true, ite_false, g2, decide_eq_false c1]
      have st2 : sSet 3 (dCallF f__law_e_meeting (aCons (dVar 1) (aCons (dC (.bl true)) aNil))) env2 S = .ok (.nx, env2.set 3 (some M)) S2 := by
        simp only [sSeq, sIf, sRet, sSet, sExpr, sAsg, sFl, sNil, sFor, dBin, dC, dCall, dCallF, aCons, aNil, dTst, dNot, dAnd, dOr, bAnd, bOr, bNot, dChain, dUn, dTup, dLst, dCell, dIf, iSeq, iRange1, iRange2, dVar, gN, gTupD, gsCons, gsNil, dSl, oNo, oSo, asI, dComp, wipeE, Out.bind_ok, Out.bind_exc, Out.bind_bad, lift_some, lift_none, asB_bl, add_ii, sub_ii, neg_i, lt_ii, le_ii, gt_ii, ge_ii, eq_ii, ne_ii, eq_ss, ne_ss, isnot_bb, is_bb, is_non, isnot_non, ix_tupD, ix_lstD, ix_fzD, at_lit0, at_lit1, at_lit2, at_lit3, len_fz, len_lst, len_tup, itemsOf, List.map_cons, List.map_nil, List.length_cons, List.length_nil, List.getElem?_cons_zero, List.getElem?_cons_succ, List.set_cons_zero, List.set_cons_succ, List.cons_append, List.nil_append, List.replicate_succ, List.replicate_zero, Nat.reduceSub, Nat.reduceAdd, if_true, if_false, Bool.false_eq_true, Bool.true_eq_false, Bool.not_true, Bool.not_false, Option.bind_some, Option.map_some, Nat.zero_add, ite_true, ite_false, g1, em, hM]
      obtain ⟨J2, hJ2⟩ : ∃ J2 : Ev → Sto → Prop, J2 = fun env T => env.length = 6 ∧ env[0]? = some (some (.fz (ns.map D.int))) ∧ env[1]? = some (some (.ref 0)) ∧ env[3]? = some (some M) ∧ T = S2 := ⟨_, rfl⟩
      obtain ⟨env3, T3, e3, hJ3⟩ := forGo_inv (g := gN 4) (b := sIf (dTst (dBin oIsNot (dCallF f_is_counted (aCons (dVar 3) aNil)) (dC (.bl true)))) (sRet (dC (.bl false))) sNil) J2 (rngL 0 2) (env2.set 3 (some M)) S2 (by rw [hJ2]; exact ⟨m6, m0, m1, m3, rfl⟩) (fun d _ env T hT => by
        rw [hJ2] at hT
        obtain ⟨a6, a0, a1, a3, eT⟩ := hT
        subst eT
        have b3 : (env.set 4 (some d))[3]? = some (some M) := (List.getElem?_set_ne (by decide)).trans a3
        refine ⟨env.set 4 (some d), .nx, env.set 4 (some d), T, rfl, (if_f (S' := T) ?_).trans rfl, by rw [hJ2]; exact ⟨by rw [List.length_set]; exact a6, (List.getElem?_set_ne (by decide)).trans a0, (List.getElem?_set_ne (by decide)).trans a1, b3, rfl⟩, .inl rfl⟩
        simp only [sSeq, sIf, sRet, sSet, sExpr, sAsg, sFl, sNil, sFor, dBin, dC, dCall, dCallF, aCons, aNil, dTst, dNot, dAnd, dOr, bAnd, bOr, bNot, dChain, dUn, dTup, dLst, dCell, dIf, iSeq, iRange1, iRange2, dVar, gN, gTupD, gsCons, gsNil, dSl, oNo, oSo, asI, dComp, wipeE, Out.bind_ok, Out.bind_exc, Out.bind_bad, lift_some, lift_none, asB_bl, add_ii, sub_ii, neg_i, lt_ii, le_ii, gt_ii, ge_ii, eq_ii, ne_ii, eq_ss, ne_ss, isnot_bb, is_bb, is_non, isnot_non, ix_tupD, ix_lstD, ix_fzD, at_lit0, at_lit1, at_lit2, at_lit3, len_fz, len_lst, len_tup, itemsOf, List.map_cons, List.map_nil, List.length_cons, List.length_nil, List.getElem?_cons_zero, List.getElem?_cons_succ, List.set_cons_zero, List.set_cons_succ, List.cons_append, List.nil_append, List.replicate_succ, List.replicate_zero, Nat.reduceSub, Nat.reduceAdd, if_true, if_false, Bool.false_eq_true, Bool.true_eq_false, Bool.not_true, Bool.not_false, Option.bind_some, Option.map_some, Nat.zero_add, ite_true, ite_false, b3, cM, decide_true])
      rw [hJ2] at hJ3
      obtain ⟨a6, a0, a1, a3, eT⟩ := hJ3
      subst eT
      obtain ⟨J4, hJ4⟩ : ∃ J4 : Ev → Sto → Prop, J4 = fun env T => env.length = 6 ∧ env[0]? = some (some (.fz (ns.map D.int))) ∧ env[1]? = some (some (.ref 0)) ∧ T = S3 ++ [J] := ⟨_, rfl⟩
      obtain ⟨env5, T5, e5, hJ5⟩ := forGo_inv (g := gN 5) (b := sIf (dTst (dBin oIsNot (dCallF f_is_counted (aCons (dVar 5) aNil)) (dC (.bl false)))) (sRet (dC (.bl false))) sNil) J4 ts env3 (S3 ++ [J]) (by rw [hJ4]; exact ⟨a6, a0, a1, rfl⟩) (fun d hd env T hT => by
        rw [hJ4] at hT
        obtain ⟨b6, b0, b1, eT⟩ := hT
        subst eT
        obtain ⟨td, cd⟩ := hts d hd
        have b5 : (env.set 5 (some d))[5]? = some (some d) := List.getElem?_set_self (by omega)
        have cc := counted_spec td
        rw [cd] at cc
        refine ⟨env.set 5 (some d), .nx, env.set 5 (some d), _, rfl, (if_f ?_).trans rfl, by rw [hJ4]; exact ⟨by rw [List.length_set]; exact b6, (List.getElem?_set_ne (by decide)).trans b0, (List.getElem?_set_ne (by decide)).trans b1, rfl⟩, .inl rfl⟩
        simp only [sSeq, sIf, sRet, sSet, sExpr, sAsg, sFl, sNil, sFor, dBin, dC, dCall, dCallF, aCons, aNil, dTst, dNot, dAnd, dOr, bAnd, bOr, bNot, dChain, dUn, dTup, dLst, dCell, dIf, iSeq, iRange1, iRange2, dVar, gN, gTupD, gsCons, gsNil, dSl, oNo, oSo, asI, dComp, wipeE, Out.bind_ok, Out.bind_exc, Out.bind_bad, lift_some, lift_none, asB_bl, add_ii, sub_ii, neg_i, lt_ii, le_ii, gt_ii, ge_ii, eq_ii, ne_ii, eq_ss, ne_ss, isnot_bb, is_bb, is_non, isnot_non, ix_tupD, ix_lstD, ix_fzD, at_lit0, at_lit1, at_lit2, at_lit3, len_fz, len_lst, len_tup, itemsOf, List.map_cons, List.map_nil, List.length_cons, List.length_nil, List.getElem?_cons_zero, List.getElem?_cons_succ, List.set_cons_zero, List.set_cons_succ, List.cons_append, List.nil_append, List.replicate_succ, List.replicate_zero, Nat.reduceSub, Nat.reduceAdd, if_true, if_false, Bool.false_eq_true, Bool.true_eq_false, Bool.not_true, Bool.not_false, Option.bind_some, Option.map_some, Nat.zero_add, ite_true, ite_false, b5, cc, decide_true])
      rw [hJ4] at hJ5
      obtain ⟨b6, b0, b1, eT⟩ := hJ5
      subst eT
      refine ⟨env2, .nx, env5, S3 ++ [J], gn, ?_, by rw [hI]; exact ⟨b6, b0, b1, p3, q3, hp3, hq3, hS3⟩, .inl rfl⟩
      refine (seq_nx st1).trans ((seq_nx st2).trans ((seq_nx (env' := env3) (S' := T3) ?_).trans ?_))
      · have r2 : rng1 [.int 2] = some (rngL 0 2) := rfl
        simp only [sFor, iRange1, aCons, aNil, dC, Out.bind_ok, r2, lift_some]
        exact e3
      · have es' : f__law_e_spoilt [.ref 0, M] T3 = .ok (.lst ts) (S3 ++ [J]) := by rw [hM]; exact es
        simp only [sFor, iSeq, dCallF, aCons, aNil, dVar, a1, a3, Out.bind_ok, es', itemsOf, lift_some]
        exact e5)
  rw [hI] at hI1
  obtain ⟨h6, h0, h1, p, q, hp, hq, hS⟩ := hI1
  -- the other things
  obtain ⟨S2, hS2⟩ : ∃ S2 : Sto, S2 = S1 ++ [.dK []] := ⟨_, rfl⟩
  obtain ⟨ts, hts⟩ : ∃ ts : List D, ts = [.non, .bl true, .int 0, .str "counted", .tup [], .lst [], .ref S1.length, .tup [.int 1], .tup [.int 1, .int 1], .tup [.tup [], .tup []], .tup [.int 1, .tup [.str "a"]]] := ⟨_, rfl⟩
  have hty : ∀ t ∈ ts, typedD S2 t = true ∧ isCounted t = false := by
    intro t ht
    rw [hts] at ht
    simp only [List.mem_cons, List.not_mem_nil, or_false] at ht
    have gl : S2[S1.length]? = some (.dK []) := by rw [hS2, List.getElem?_append_right (Nat.le_refl _), Nat.sub_self]; rfl
    rcases ht with e | e | e | e | e | e | e | e | e | e | e <;> subst e
    case inr.inr.inr.inr.inr.inr.inl =>
      refine ⟨?_, rfl⟩
      show (tyN S2 (.ref S1.length)).isSome = true
      unfold tyN
      dsimp only
      rw [gl]; rfl
    all_goals exact ⟨rfl, rfl⟩
  obtain ⟨J4, hJ4⟩ : ∃ J4 : Ev → Sto → Prop, J4 = fun env T => env.length = 6 ∧ T = S2 := ⟨_, rfl⟩
  obtain ⟨env5, T5, e5, hJ5⟩ := forGo_inv (g := gN 5) (b := sIf (dTst (dBin oIsNot (dCallF f_is_counted (aCons (dVar 5) aNil)) (dC (.bl false)))) (sRet (dC (.bl false))) sNil) J4 ts env1 S2 (by rw [hJ4]; exact ⟨h6, rfl⟩) (fun d hd env T hT => by
    rw [hJ4] at hT
    obtain ⟨b6, eT⟩ := hT
    subst eT
    obtain ⟨td, cd⟩ := hty d hd
    have b5 : (env.set 5 (some d))[5]? = some (some d) := List.getElem?_set_self (by omega)
    have cc := counted_spec td
    rw [cd] at cc
    refine ⟨env.set 5 (some d), .nx, env.set 5 (some d), _, rfl, (if_f ?_).trans rfl, by rw [hJ4]; exact ⟨by rw [List.length_set]; exact b6, rfl⟩, .inl rfl⟩
    simp only [sSeq, sIf, sRet, sSet, sExpr, sAsg, sFl, sNil, sFor, dBin, dC, dCall, dCallF, aCons, aNil, dTst, dNot, dAnd, dOr, bAnd, bOr, bNot, dChain, dUn, dTup, dLst, dCell, dIf, iSeq, iRange1, iRange2, dVar, gN, gTupD, gsCons, gsNil, dSl, oNo, oSo, asI, dComp, wipeE, Out.bind_ok, Out.bind_exc, Out.bind_bad, lift_some, lift_none, asB_bl, add_ii, sub_ii, neg_i, lt_ii, le_ii, gt_ii, ge_ii, eq_ii, ne_ii, eq_ss, ne_ss, isnot_bb, is_bb, is_non, isnot_non, ix_tupD, ix_lstD, ix_fzD, at_lit0, at_lit1, at_lit2, at_lit3, len_fz, len_lst, len_tup, itemsOf, List.map_cons, List.map_nil, List.length_cons, List.length_nil, List.getElem?_cons_zero, List.getElem?_cons_succ, List.set_cons_zero, List.set_cons_succ, List.cons_append, List.nil_append, List.replicate_succ, List.replicate_zero, Nat.reduceSub, Nat.reduceAdd, if_true, if_false, Bool.false_eq_true, Bool.true_eq_false, Bool.not_true, Bool.not_false, Option.bind_some, Option.map_some, Nat.zero_add, ite_true, ite_false, b5, cc, decide_true])
  rw [hJ4] at hJ5
  obtain ⟨b6, eT⟩ := hJ5
  subst eT
  refine ⟨T5, fun0_rt (env := env5) ?_⟩
  unfold d_law
  refine (seq_nx (env' := [some (.fz (ns.map D.int)), some (.ref 0), none, none, none, none]) (S' := [deckC ns 0 0]) ?_).trans ?_
  · simp only [sSeq, sIf, sRet, sSet, sExpr, sAsg, sFl, sNil, sFor, dBin, dC, dCall, dCallF, aCons, aNil, dTst, dNot, dAnd, dOr, bAnd, bOr, bNot, dChain, dUn, dTup, dLst, dCell, dIf, iSeq, iRange1, iRange2, dVar, gN, gTupD, gsCons, gsNil, dSl, oNo, oSo, asI, dComp, wipeE, Out.bind_ok, Out.bind_exc, Out.bind_bad, lift_some, lift_none, asB_bl, add_ii, sub_ii, neg_i, lt_ii, le_ii, gt_ii, ge_ii, eq_ii, ne_ii, eq_ss, ne_ss, isnot_bb, is_bb, is_non, isnot_non, ix_tupD, ix_lstD, ix_fzD, at_lit0, at_lit1, at_lit2, at_lit3, len_fz, len_lst, len_tup, itemsOf, List.map_cons, List.map_nil, List.length_cons, List.length_nil, List.getElem?_cons_zero, List.getElem?_cons_succ, List.set_cons_zero, List.set_cons_succ, List.cons_append, List.nil_append, List.replicate_succ, List.replicate_zero, Nat.reduceSub, Nat.reduceAdd, if_true, if_false, Bool.false_eq_true, Bool.true_eq_false, Bool.not_true, Bool.not_false, Option.bind_some, Option.map_some, Nat.zero_add, ite_true, ite_false, if_pos (show (3 : Nat) ≤ sizeLine by decide)]
    rfl
  refine (seq_nx (env' := env1) (S' := S1) ?_).trans ?_
  · have r6 : rng1 [.int 6] = some (rngL 0 6) := rfl
    simp only [sFor, iRange1, aCons, aNil, dC, Out.bind_ok, r6, lift_some]
    exact e1
  refine (seq_nx (env' := env5) (S' := T5) ?_).trans ?_
  · have ed : dNewK env1 S1 = .ok (.ref S1.length) T5 := by rw [hS2]; rfl
    have ee : (iSeq (dLst (aCons (dC .non) (aCons (dC (.bl true)) (aCons (dC (.int 0)) (aCons (dC (.str "counted")) (aCons (dTup aNil) (aCons (dLst aNil) (aCons (dNewK) (aCons (dTup (aCons (dC (.int 1)) aNil)) (aCons (dTup (aCons (dC (.int 1)) (aCons (dC (.int 1)) aNil))) (aCons (dTup (aCons (dTup aNil) (aCons (dTup aNil) aNil))) (aCons (dTup (aCons (dC (.int 1)) (aCons (dTup (aCons (dC (.str "a")) aNil)) aNil))) aNil))))))))))))) env1 S1 = .ok ts T5 := by
      simp only [sSeq, sIf, sRet, sSet, sExpr, sAsg, sFl, sNil, sFor, dBin, dC, dCall, dCallF, aCons, aNil, dTst, dNot, dAnd, dOr, bAnd, bOr, bNot, dChain, dUn, dTup, dLst, dCell, dIf, iSeq, iRange1, iRange2, dVar, gN, gTupD, gsCons, gsNil, dSl, oNo, oSo, asI, dComp, wipeE, Out.bind_ok, Out.bind_exc, Out.bind_bad, lift_some, lift_none, asB_bl, add_ii, sub_ii, neg_i, lt_ii, le_ii, gt_ii, ge_ii, eq_ii, ne_ii, eq_ss, ne_ss, isnot_bb, is_bb, is_non, isnot_non, ix_tupD, ix_lstD, ix_fzD, at_lit0, at_lit1, at_lit2, at_lit3, len_fz, len_lst, len_tup, itemsOf, List.map_cons, List.map_nil, List.length_cons, List.length_nil, List.getElem?_cons_zero, List.getElem?_cons_succ, List.set_cons_zero, List.set_cons_succ, List.cons_append, List.nil_append, List.replicate_succ, List.replicate_zero, Nat.reduceSub, Nat.reduceAdd, if_true, if_false, Bool.false_eq_true, Bool.true_eq_false, Bool.not_true, Bool.not_false, Option.bind_some, Option.map_some, Nat.zero_add, ite_true, ite_false, ed, if_pos (show (11 : Nat) ≤ sizeLine by decide), if_pos (show (0 : Nat) ≤ sizeLine by decide), if_pos (show (1 : Nat) ≤ sizeLine by decide), if_pos (show (2 : Nat) ≤ sizeLine by decide)]
      rw [hts]
    unfold sFor
    rw [ee, Out.bind_ok]
    exact e5
  · have c1 : f_is_counted [.tup [.int 1, .tup [.int 0]]] T5 = .ok (.bl true) T5 := counted_spec (S := T5) rfl
    have c2 : f_is_counted [.tup [.int 5, .tup [.int 4, .int 4, .int 4, .int 4, .int 4]]] T5 = .ok (.bl true) T5 := counted_spec (S := T5) rfl
    simp only [sSeq, sIf, sRet, sSet, sExpr, sAsg, sFl, sNil, sFor, dBin, dC, dCall, dCallF, aCons, aNil, dTst, dNot, dAnd, dOr, bAnd, bOr, bNot, dChain, dUn, dTup, dLst, dCell, dIf, iSeq, iRange1, iRange2, dVar, gN, gTupD, gsCons, gsNil, dSl, oNo, oSo, asI, dComp, wipeE, Out.bind_ok, Out.bind_exc, Out.bind_bad, lift_some, lift_none, asB_bl, add_ii, sub_ii, neg_i, lt_ii, le_ii, gt_ii, ge_ii, eq_ii, ne_ii, eq_ss, ne_ss, isnot_bb, is_bb, is_non, isnot_non, ix_tupD, ix_lstD, ix_fzD, at_lit0, at_lit1, at_lit2, at_lit3, len_fz, len_lst, len_tup, itemsOf, List.map_cons, List.map_nil, List.length_cons, List.length_nil, List.getElem?_cons_zero, List.getElem?_cons_succ, List.set_cons_zero, List.set_cons_succ, List.cons_append, List.nil_append, List.replicate_succ, List.replicate_zero, Nat.reduceSub, Nat.reduceAdd, if_true, if_false, Bool.false_eq_true, Bool.true_eq_false, Bool.not_true, Bool.not_false, Option.bind_some, Option.map_some, Nat.zero_add, ite_true, ite_false, if_pos (show (1 : Nat) ≤ sizeLine by decide), if_pos (show (2 : Nat) ≤ sizeLine by decide), if_pos (show (5 : Nat) ≤ sizeLine by decide), c1, c2, decide_true]
end G
end DL
end L2

set_option Elab.async false
set_option linter.all false
set_option maxRecDepth 100000
namespace L2
namespace DL
namespace G
open PySem PySem.Spec PyProof.Rows
theorem all_mk {l : PySem.W.OpenLaw} {w : World} {K : PySem.W.Frag} {h : Heap} {mg : Str → Option Value} {fa f0 f1 f2 f3 f4 f5 f6 : Addr} (X : K.In h) (G : h.Ns mainGlobals mg) (hfa : mg "law" = some (.ref fa))
    {od0 an0 : Option Addr} {sl0 : Array (Option Value)} {oc0 kV0 dc0 pm0 cd0 ct0 : Value}
    (a0 : PySem.W.nsIn K mainGlobals "is_count" = some (some (.ref f0))) (l0 : K.lookup f0 = some ⟨oc0, od0, .func (PySem.W.fnOf "is_count" "is_count" (defArgs st_is_count) (defBody st_is_count) (defScope st_is_count) .none kV0 dc0 pm0 an0 cd0 ct0), sl0⟩) (c0 : PySem.W.codeIn K cd0 "is_count" = true) (k0 : PySem.W.keepIn K (.ref f0) = true)
    {od1 an1 : Option Addr} {sl1 : Array (Option Value)} {oc1 kV1 dc1 pm1 cd1 ct1 : Value}
    (a1 : PySem.W.nsIn K mainGlobals "is_counted" = some (some (.ref f1))) (l1 : K.lookup f1 = some ⟨oc1, od1, .func (PySem.W.fnOf "is_counted" "is_counted" (defArgs st_is_counted) (defBody st_is_counted) (defScope st_is_counted) .none kV1 dc1 pm1 an1 cd1 ct1), sl1⟩) (c1 : PySem.W.codeIn K cd1 "is_counted" = true) (k1 : PySem.W.keepIn K (.ref f1) = true)
    {od2 an2 : Option Addr} {sl2 : Array (Option Value)} {oc2 kV2 dc2 pm2 cd2 ct2 : Value}
    (a2 : PySem.W.nsIn K mainGlobals "_law_e_mixed" = some (some (.ref f2))) (l2 : K.lookup f2 = some ⟨oc2, od2, .func (PySem.W.fnOf "_law_e_mixed" "_law_e_mixed" (defArgs st__law_e_mixed) (defBody st__law_e_mixed) (defScope st__law_e_mixed) .none kV2 dc2 pm2 an2 cd2 ct2), sl2⟩) (c2 : PySem.W.codeIn K cd2 "_law_e_mixed" = true) (k2 : PySem.W.keepIn K (.ref f2) = true)
    {od3 an3 : Option Addr} {sl3 : Array (Option Value)} {oc3 kV3 dc3 pm3 cd3 ct3 : Value}
    (a3 : PySem.W.nsIn K mainGlobals "_law_e_pick" = some (some (.ref f3))) (l3 : K.lookup f3 = some ⟨oc3, od3, .func (PySem.W.fnOf "_law_e_pick" "_law_e_pick" (defArgs st__law_e_pick) (defBody st__law_e_pick) (defScope st__law_e_pick) .none kV3 dc3 pm3 an3 cd3 ct3), sl3⟩) (c3 : PySem.W.codeIn K cd3 "_law_e_pick" = true) (k3 : PySem.W.keepIn K (.ref f3) = true)
    {od4 an4 : Option Addr} {sl4 : Array (Option Value)} {oc4 kV4 dc4 pm4 cd4 ct4 : Value}
    (a4 : PySem.W.nsIn K mainGlobals "_law_e_meeting" = some (some (.ref f4))) (l4 : K.lookup f4 = some ⟨oc4, od4, .func (PySem.W.fnOf "_law_e_meeting" "_law_e_meeting" (defArgs st__law_e_meeting) (defBody st__law_e_meeting) (defScope st__law_e_meeting) .none kV4 dc4 pm4 an4 cd4 ct4), sl4⟩) (c4 : PySem.W.codeIn K cd4 "_law_e_meeting" = true) (k4 : PySem.W.keepIn K (.ref f4) = true)
    {od5 an5 : Option Addr} {sl5 : Array (Option Value)} {oc5 kV5 dc5 pm5 cd5 ct5 : Value}
    (a5 : PySem.W.nsIn K mainGlobals "_law_e_spoilt" = some (some (.ref f5))) (l5 : K.lookup f5 = some ⟨oc5, od5, .func (PySem.W.fnOf "_law_e_spoilt" "_law_e_spoilt" (defArgs st__law_e_spoilt) (defBody st__law_e_spoilt) (defScope st__law_e_spoilt) .none kV5 dc5 pm5 an5 cd5 ct5), sl5⟩) (c5 : PySem.W.codeIn K cd5 "_law_e_spoilt" = true) (k5 : PySem.W.keepIn K (.ref f5) = true)
    {od6 an6 : Option Addr} {sl6 : Array (Option Value)} {oc6 kV6 dc6 pm6 cd6 ct6 : Value}
    (a6 : PySem.W.nsIn K mainGlobals "law" = some (some (.ref f6))) (l6 : K.lookup f6 = some ⟨oc6, od6, .func (PySem.W.fnOf "law" "law" (defArgs st_law) (defBody st_law) (defScope st_law) .none kV6 dc6 pm6 an6 cd6 ct6), sl6⟩) (c6 : PySem.W.codeIn K cd6 "law" = true) (k6 : PySem.W.keepIn K (.ref f6) = true)
    (z_isinstance : PySem.W.nsIn K mainGlobals "isinstance" = some none)
    (z_int : PySem.W.nsIn K mainGlobals "int" = some none)
    (z_bool : PySem.W.nsIn K mainGlobals "bool" = some none)
    (z_tuple : PySem.W.nsIn K mainGlobals "tuple" = some none)
    (z_len : PySem.W.nsIn K mainGlobals "len" = some none)
    (z_all : PySem.W.nsIn K mainGlobals "all" = some none)
    (z_range : PySem.W.nsIn K mainGlobals "range" = some none)
    (z_str : PySem.W.nsIn K mainGlobals "str" = some none)
    (z_sum : PySem.W.nsIn K mainGlobals "sum" = some none)
    (z_list : PySem.W.nsIn K mainGlobals "list" = some none)
    : ∃ fd : FuncData, (∀ (s : Shared) (v : Value), BindsTo s fd ⟨[v], []⟩ [("script", v)]) ∧ ∀ base : Heap, K.In base → base.Ns mainGlobals mg → FnOk l.prog w K mg base CX0 4 fa fd ["script"] (spLaw K) := by
  have e := hfa.symm.trans (PySem.W.mg_of X G a6)
  cases e
  have F0 := fun_mk (st := st_is_count) l0 c0 k0
  have b0 := F0.binds (ps := ["thing"]) fun _ _ _ _ _ _ us hl => match us, hl with | [_], _ => rfl
  have F1 := fun_mk (st := st_is_counted) l1 c1 k1
  have b1 := F1.binds (ps := ["thing"]) fun _ _ _ _ _ _ us hl => match us, hl with | [_], _ => rfl
  have F2 := fun_mk (st := st__law_e_mixed) l2 c2 k2
  have b2 := F2.binds (ps := ["cell", "place"]) fun _ _ _ _ _ _ us hl => match us, hl with | [_, _], _ => rfl
  have F3 := fun_mk (st := st__law_e_pick) l3 c3 k3
  have b3 := F3.binds (ps := ["deck", "many"]) fun _ _ _ _ _ _ us hl => match us, hl with | [_, _], _ => rfl
  have F4 := fun_mk (st := st__law_e_meeting) l4 c4 k4
  have b4 := F4.binds (ps := ["deck", "great"]) fun _ _ _ _ _ _ us hl => match us, hl with | [_, _], _ => rfl
  have F5 := fun_mk (st := st__law_e_spoilt) l5 c5 k5
  have b5 := F5.binds (ps := ["deck", "meeting"]) fun _ _ _ _ _ _ us hl => match us, hl with | [_, _], _ => rfl
  have F6 := fun_mk (st := st_law) l6 c6 k6
  have y_isinstance := PySem.W.mg_none_of X G z_isinstance
  have y_int := PySem.W.mg_none_of X G z_int
  have y_bool := PySem.W.mg_none_of X G z_bool
  have y_tuple := PySem.W.mg_none_of X G z_tuple
  have y_len := PySem.W.mg_none_of X G z_len
  have y_all := PySem.W.mg_none_of X G z_all
  have y_range := PySem.W.mg_none_of X G z_range
  have y_str := PySem.W.mg_none_of X G z_str
  have y_sum := PySem.W.mg_none_of X G z_sum
  have y_list := PySem.W.mg_none_of X G z_list
  refine ⟨PySem.W.fnOf "law" "law" (defArgs st_law) (defBody st_law) (defScope st_law) .none kV6 dc6 pm6 an6 cd6 ct6, fun s v => .of_eq rfl, fun base _ _ => ?_⟩
  have C0 := ok_is_count (P := l.prog) (w := w) (base := base) (k := 0) F0 b0 (PySem.W.mg_of X G a0) y_isinstance y_int y_bool
  have C1 := ok_is_counted (P := l.prog) (w := w) (base := base) (k := 1) F1 b1 (PySem.W.mg_of X G a1) (C0.up (by decide)) y_isinstance y_tuple y_len y_all
  have C2 := ok__law_e_mixed (P := l.prog) (w := w) (base := base) (k := 0) F2 b2 (PySem.W.mg_of X G a2)
  have C3 := ok__law_e_pick (P := l.prog) (w := w) (base := base) (k := 1) F3 b3 (PySem.W.mg_of X G a3) (C2.up (by decide)) y_len
  have C4 := ok__law_e_meeting (P := l.prog) (w := w) (base := base) (k := 2) F4 b4 (PySem.W.mg_of X G a4) (C3.up (by decide)) y_range y_tuple
  have C5 := ok__law_e_spoilt (P := l.prog) (w := w) (base := base) (k := 2) F5 b5 (PySem.W.mg_of X G a5) (C3.up (by decide)) y_len y_str y_sum y_list
  exact law_ok (ok_law (P := l.prog) (w := w) (base := base) (k := 3) F6 (C4.up (by decide)) (C1.up (by decide)) (C5.up (by decide)) y_range y_len) law_true
end G
end DL
end L2
open PySem PySem.W PyProof.Rows
set_option maxRecDepth 100000 in
set_option maxHeartbeats 0 in
theorem PySem.Challenge.cw_meetwall_k51_counted_meetings_of_anythin_holds : PySem.Challenge.rw_meetwall_k51_counted_meetings_of_anythin.Holds := by
  w_on; o_law; k_head; (case hw => w_witness2)
  k_fill
  refine L2.walk_of (l := PySem.Challenge.rw_meetwall_k51_counted_meetings_of_anythin) (n := 63) (k := 4) (x := "script") (CX := fun _ => L2.CX0) (sp := fun w => L2.DL.spLaw _) rfl (by decide) rfl ⟨rfl, by decide, by decide⟩ (fun w h Y => PySem.W.kIn_of Y) ?F (fun _ _ a ns hl hO hS => ⟨a, ns, rfl, L2.DL.only_fz hO hS, hl, fun _ => rfl⟩) (fun _ _ _ _ _ h => h)
  case F =>
    intro w mg fa h KX G hmg
    refine' L2.DL.G.all_mk KX G hmg ?a0 ?l0 ?c0 ?k0 ?a1 ?l1 ?c1 ?k1 ?a2 ?l2 ?c2 ?k2 ?a3 ?l3 ?c3 ?k3 ?a4 ?l4 ?c4 ?k4 ?a5 ?l5 ?c5 ?k5 ?a6 ?l6 ?c6 ?k6 ?z_isinstance ?z_int ?z_bool ?z_tuple ?z_len ?z_all ?z_range ?z_str ?z_sum ?z_list
    (case a0 => k_is); (case l0 => k_is); (case c0 => k_is); (case k0 => k_is); (case a1 => k_is); (case l1 => k_is); (case c1 => k_is); (case k1 => k_is); (case a2 => k_is); (case l2 => k_is); (case c2 => k_is); (case k2 => k_is); (case a3 => k_is); (case l3 => k_is); (case c3 => k_is); (case k3 => k_is); (case a4 => k_is); (case l4 => k_is); (case c4 => k_is); (case k4 => k_is); (case a5 => k_is); (case l5 => k_is); (case c5 => k_is); (case k5 => k_is); (case a6 => k_is); (case l6 => k_is); (case c6 => k_is); (case k6 => k_is); (case z_isinstance => k_is); (case z_int => k_is); (case z_bool => k_is); (case z_tuple => k_is); (case z_len => k_is); (case z_all => k_is); (case z_range => k_is); (case z_str => k_is); (case z_sum => k_is); (case z_list => k_is)

