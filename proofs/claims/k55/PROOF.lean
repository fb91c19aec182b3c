import PyProof.Rows.All
import Wide.All
import OpenK.AllK
import Wide.FinOn
import HandS.ForExc
import HandS.Comp
import HandS.Style
import HandS.IsInst
import HandS.Wide
import HandS.TupAny
import HandS.TupMul
import HandS.EndBits
import HandS.Dict
import HandS.Deep
import HandS.Iter
import KE.KTupSum
import KE.GoesMore
import HandS.Text
import HandS.List
import HandS.Conv
import HandS.SortInts
import HandS.TupSets
import OpenK.KWalk
import HandS.TupLen
import HandS.WordsDict
import KE.KDictDisplayH
import PySem.Challenge.RW_meetwall_k55_lists_of_counts_looked_at
set_option Elab.async false
set_option linter.all false
set_option maxRecDepth 100000
/-! The data layer: what a def computes, as a plain function over trees and a store of mutable cells. -/
namespace L2
namespace DL
open PySem PySem.Spec PyProof.Rows

/-- a value as a tree: tuples and lists that are never changed any more by their items, lists known to stay (fz), mutable things by their place in the store -/
inductive D where
  | non | bl (b : Bool) | int (i : Int) | str (x : Str) | tup (ds : List D) | lst (ds : List D) | fz (ds : List D) | ref (n : Nat) | ty (n : String)
/-- a mutable thing -/
inductive Cell where
  | lst (ds : List D) | dK (kvs : List (Key × D)) | dT (kvs : List (List Key × D)) | ins (c : Str) (fs : List (Str × D))
abbrev Sto := List Cell
abbrev Ev := List (Option D)
/-- what a piece of code comes to -/
inductive Out (A : Type) where
  | ok (a : A) (S : Sto) | exc (c : Str) (S : Sto) | bad
def Out.bind {A B : Type} (m : Out A) (k : A → Sto → Out B) : Out B := match m with
  | .ok a S => k a S
  | .exc c S => .exc c S
  | .bad => .bad
theorem Out.bind_ok {A B : Type} (a : A) (S : Sto) (k : A → Sto → Out B) : (Out.ok a S).bind k = k a S := rfl
theorem Out.bind_exc {A B : Type} (c : Str) (S : Sto) (k : A → Sto → Out B) : (Out.exc c S).bind k = Out.exc c S := rfl
theorem Out.bind_bad {A B : Type} (k : A → Sto → Out B) : (Out.bad : Out A).bind k = Out.bad := rfl
def lift {A : Type} (o : Option A) (S : Sto) : Out A := match o with
  | some a => .ok a S
  | none => .bad

/-! ### how a value of the machine is a tree -/
/-- a list of the written part -/
def KL (K : PySem.W.Frag) (a : Addr) (xs : List V) : Prop := ∃ (o : Obj) (its : Array Value) (n : Nat), K.lookup a = some o ∧ o.cls = .type "list" ∧ o.dict = none ∧ o.data = .seq its n ∧ its.size ≤ sizeLine ∧ Vals xs its.toList
/-- a list that nobody changes -/
def FzL (K : PySem.W.Frag) (H : Hp) (a : Addr) (xs : List V) : Prop := (∃ o, H a = some (.frz o (.lst xs))) ∨ KL K a xs
theorem FzL.sq {K : PySem.W.Frag} {H : Hp} {a : Addr} {xs : List V} (h : FzL K H a xs) : SqL K H a xs := h.elim (fun ⟨o, z⟩ => .inl (.inr ⟨o, z⟩)) .inr
mutual
inductive Den (K : PySem.W.Frag) (H : Hp) (r t : List Addr) : V → D → Prop
  | non : Den K H r t .non .non
  | bl (b : Bool) : Den K H r t (.bl b) (.bl b)
  | int (i : Int) : Den K H r t (.int i) (.int i)
  | str (x : Str) : Den K H r t (.str x) (.str x)
  | tup {a : Addr} {xs : List V} {ds : List D} (h : H a = some (.tup xs)) (z : DenL K H r t xs ds) : Den K H r t (.ref a) (.tup ds)
  | lst {a : Addr} {xs : List V} {ds : List D} (h : H a = some (.lst xs)) (n : a ∉ r) (m : a ∉ t) (z : DenL K H r t xs ds) : Den K H r t (.ref a) (.lst ds)
  | fz {a : Addr} {xs : List V} {ds : List D} (h : FzL K H a xs) (z : DenL K H r t xs ds) : Den K H r t (.ref a) (.fz ds)
  | ref {a : Addr} {n : Nat} (h : r[n]? = some a) : Den K H r t (.ref a) (.ref n)
  | ty (n : String) : Den K H r t (.ty n) (.ty n)
inductive DenL (K : PySem.W.Frag) (H : Hp) (r t : List Addr) : List V → List D → Prop
  | nil : DenL K H r t [] []
  | cons {v : V} {vs : List V} {d : D} {ds : List D} : Den K H r t v d → DenL K H r t vs ds → DenL K H r t (v :: vs) (d :: ds)
end
/-- pairs of a key and a value -/
def DenP (K : PySem.W.Frag) (H : Hp) (r t : List Addr) {k : Type} (xs : List (k × V)) (ds : List (k × D)) : Prop := xs.map (·.1) = ds.map (·.1) ∧ DenL K H r t (xs.map (·.2)) (ds.map (·.2))

/-- the heap grows: new cells behind the old ones, what is no cell stays -/
structure Ext (r : List Addr) (H : Hp) (r' : List Addr) (H' : Hp) : Prop where
  pre : ∃ nw, r' = r ++ nw ∧ ∀ p ∈ nw, H p = none
  keep : ∀ b o, H b = some o → b ∉ r → H' b = some o
  tups : ∀ b xs, H b = some (.tup xs) → H' b = some (.tup xs)
  frzs : ∀ b o u, H b = some (.frz o u) → H' b = some (.frz o u)
  owns : ∀ b x, H b = some (.own x) → H' b = some (.own x)
  there : ∀ b, H b ≠ none → H' b ≠ none
section
variable {K : PySem.W.Frag} {H H1 H2 : Hp} {r r1 r2 t : List Addr}
theorem Ext.refl (r : List Addr) (H : Hp) : Ext r H r H := ⟨⟨[], by simp⟩, fun _ _ h _ => h, fun _ _ h => h, fun _ _ _ h => h, fun _ _ h => h, fun _ h => h⟩
theorem Ext.notin (a : Ext r H r1 H1) {b : Addr} (h : H b ≠ none) (hb : b ∉ r) : b ∉ r1 := fun hm => by
  obtain ⟨n1, e1, f1⟩ := a.pre
  rw [e1] at hm
  rcases List.mem_append.mp hm with z | z
  · exact hb z
  · exact h (f1 b z)
theorem Ext.trans (a : Ext r H r1 H1) (b : Ext r1 H1 r2 H2) : Ext r H r2 H2 := by
  obtain ⟨n1, e1, f1⟩ := a.pre
  obtain ⟨n2, e2, f2⟩ := b.pre
  refine ⟨⟨n1 ++ n2, by rw [e2, e1, List.append_assoc], fun p hp => ?_⟩, fun c o h hc => b.keep c o (a.keep c o h hc) (a.notin (by rw [h]; exact fun z => nomatch z) hc), fun c xs h => b.tups c xs (a.tups c xs h), fun c o u h => b.frzs c o u (a.frzs c o u h), fun c o h => b.owns c o (a.owns c o h), fun c h => b.there c (a.there c h)⟩
  rcases List.mem_append.mp hp with z | z
  · exact f1 p z
  · have q := f2 p z
    cases e : H p with
    | none => rfl
    | some o => exact absurd q (a.there p (by rw [e]; exact fun z => nomatch z))
theorem Ext.get (a : Ext r H r1 H1) {n : Nat} {b : Addr} (h : r[n]? = some b) : r1[n]? = some b := by
  obtain ⟨n1, e1, _⟩ := a.pre
  rw [e1, List.getElem?_append_left (List.getElem?_eq_some_iff.mp h).1]
  exact h
theorem Ext.sqT (a : Ext r H r1 H1) {b : Addr} {xs : List V} (h : SqT K H b xs) : SqT K H1 b xs := by
  rcases h with (h | ⟨o, h⟩) | h
  · exact .inl (.inl (a.tups _ _ h))
  · exact .inl (.inr ⟨o, a.frzs _ _ _ h⟩)
  · exact .inr h
mutual
theorem Den.ext (a : Ext r H r1 H1) : ∀ (d : D) (v : V), Den K H r t v d → Den K H1 r1 t v d
  | .non, _, h => by cases h; exact .non
  | .bl b, _, h => by cases h; exact .bl b
  | .int i, _, h => by cases h; exact .int i
  | .str x, _, h => by cases h; exact .str x
  | .ty n, _, h => by cases h; exact .ty n
  | .tup ds, _, h => by
    cases h with
    | tup h z => exact .tup (a.tups _ _ h) (DenL.ext a ds _ z)
  | .lst ds, _, h => by
    cases h with
    | lst h n m z => exact .lst (a.keep _ _ h n) (a.notin (by rw [h]; exact fun z => nomatch z) n) m (DenL.ext a ds _ z)
  | .fz ds, _, h => by
    cases h with
    | fz h z => exact .fz (h.imp (fun ⟨o, q⟩ => ⟨o, a.frzs _ _ _ q⟩) id) (DenL.ext a ds _ z)
  | .ref n, _, h => by
    cases h with
    | ref h => exact .ref (a.get h)
theorem DenL.ext (a : Ext r H r1 H1) : ∀ (ds : List D) (vs : List V), DenL K H r t vs ds → DenL K H1 r1 t vs ds
  | [], _, h => by cases h; exact .nil
  | d :: ds, _, h => by
    cases h with
    | cons h1 h2 => exact .cons (Den.ext a d _ h1) (DenL.ext a ds _ h2)
end
theorem DenP.ext (a : Ext r H r1 H1) {k : Type} {xs : List (k × V)} {ds : List (k × D)} (h : DenP K H r t xs ds) : DenP K H1 r1 t xs ds := ⟨h.1, DenL.ext a _ _ h.2⟩
theorem DenL.length : ∀ {vs : List V} {ds : List D}, DenL K H r t vs ds → vs.length = ds.length
  | _, _, .nil => rfl
  | _, _, .cons _ h => by rw [List.length_cons, List.length_cons, DenL.length h]
theorem DenL.get : ∀ {vs : List V} {ds : List D} {i : Nat} {d : D}, DenL K H r t vs ds → ds[i]? = some d → ∃ v, vs[i]? = some v ∧ Den K H r t v d
  | _, _, _, _, .nil, e => by simp at e
  | _, _, 0, _, .cons h _, e => by
    have e' := Option.some.inj e
    subst e'
    exact ⟨_, rfl, h⟩
  | _, _, i + 1, _, .cons _ h, e => DenL.get (i := i) h e
theorem DenL.getV : ∀ {vs : List V} {ds : List D} {i : Nat} {v : V}, DenL K H r t vs ds → vs[i]? = some v → ∃ d, ds[i]? = some d ∧ Den K H r t v d
  | _, _, _, _, .nil, e => by simp at e
  | _, _, 0, _, .cons h _, e => by
    have e' := Option.some.inj e
    subst e'
    exact ⟨_, rfl, h⟩
  | _, _, i + 1, _, .cons _ h, e => DenL.getV (i := i) h e
theorem DenL.append : ∀ {vs ws : List V} {ds es : List D}, DenL K H r t vs ds → DenL K H r t ws es → DenL K H r t (vs ++ ws) (ds ++ es)
  | _, _, _, _, .nil, h => h
  | _, _, _, _, .cons a b, h => .cons a (DenL.append b h)
theorem DenL.take : ∀ {vs : List V} {ds : List D} (n : Nat), DenL K H r t vs ds → DenL K H r t (vs.take n) (ds.take n)
  | _, _, 0, _ => .nil
  | _, _, _ + 1, .nil => .nil
  | _, _, n + 1, .cons a b => .cons a (DenL.take n b)
theorem DenL.drop : ∀ {vs : List V} {ds : List D} (n : Nat), DenL K H r t vs ds → DenL K H r t (vs.drop n) (ds.drop n)
  | _, _, 0, h => h
  | _, _, _ + 1, .nil => .nil
  | _, _, n + 1, .cons _ b => DenL.drop n b
theorem DenL.set : ∀ {vs : List V} {ds : List D} (n : Nat) {v : V} {d : D}, DenL K H r t vs ds → Den K H r t v d → DenL K H r t (vs.set n v) (ds.set n d)
  | _, _, _, _, _, .nil, _ => .nil
  | _, _, 0, _, _, .cons _ b, h => .cons h b
  | _, _, n + 1, _, _, .cons a b, h => .cons a (DenL.set n b h)
theorem DenL.reverse : ∀ {vs : List V} {ds : List D}, DenL K H r t vs ds → DenL K H r t vs.reverse ds.reverse
  | _, _, .nil => .nil
  | _, _, .cons a b => by
    rw [List.reverse_cons, List.reverse_cons]
    exact (DenL.reverse b).append (.cons a .nil)
theorem DenL.rep {vs : List V} {ds : List D} (h : DenL K H r t vs ds) : ∀ k : Nat, DenL K H r t (List.replicate k vs).flatten (List.replicate k ds).flatten
  | 0 => .nil
  | k + 1 => by
    rw [List.replicate_succ, List.replicate_succ, List.flatten_cons, List.flatten_cons]
    exact h.append (DenL.rep h k)
/-- ints, bools read off -/
theorem DenL.ints : ∀ {vs : List V} {ns : List Int}, DenL K H r t vs (ns.map D.int) → vs = ns.map V.int
  | _, [], h => by cases h; rfl
  | _, n :: ns, h => by
    cases h with
    | cons a b => cases a; rw [List.map_cons, DenL.ints b]
theorem DenL.bls : ∀ {vs : List V} {ns : List Bool}, DenL K H r t vs (ns.map D.bl) → vs = ns.map V.bl
  | _, [], h => by cases h; rfl
  | _, n :: ns, h => by
    cases h with
    | cons a b => cases a; rw [List.map_cons, DenL.bls b]
/- fewer hidden addresses ask less -/
mutual
theorem Den.less {u : List Addr} (hs : ∀ a ∈ u, a ∈ t) : ∀ (d : D) (v : V), Den K H r t v d → Den K H r u v d
  | .non, _, h => by cases h; exact .non
  | .bl b, _, h => by cases h; exact .bl b
  | .int i, _, h => by cases h; exact .int i
  | .str x, _, h => by cases h; exact .str x
  | .ty n, _, h => by cases h; exact .ty n
  | .tup ds, _, h => by
    cases h with
    | tup h z => exact .tup h (DenL.less hs ds _ z)
  | .lst ds, _, h => by
    cases h with
    | lst h n m z => exact .lst h n (fun q => m (hs _ q)) (DenL.less hs ds _ z)
  | .fz ds, _, h => by
    cases h with
    | fz h z => exact .fz h (DenL.less hs ds _ z)
  | .ref n, _, h => by
    cases h with
    | ref h => exact .ref h
theorem DenL.less {u : List Addr} (hs : ∀ a ∈ u, a ∈ t) : ∀ (ds : List D) (vs : List V), DenL K H r t vs ds → DenL K H r u vs ds
  | [], _, h => by cases h; exact .nil
  | d :: ds, _, h => by
    cases h with
    | cons h1 h2 => exact .cons (Den.less hs d _ h1) (DenL.less hs ds _ h2)
end
/- one more hidden address, new: what was said stands -/
mutual
theorem Den.hide {p : Addr} {o : HO} (hp : H p = none) : ∀ (d : D) (v : V), Den K H r t v d → Den K (upd H p o) r (p :: t) v d
  | .non, _, h => by cases h; exact .non
  | .bl b, _, h => by cases h; exact .bl b
  | .int i, _, h => by cases h; exact .int i
  | .str x, _, h => by cases h; exact .str x
  | .ty n, _, h => by cases h; exact .ty n
  | .tup ds, _, h => by
    cases h with
    | tup h z => exact .tup (by rw [upd_ne (ne_of_none h hp)]; exact h) (DenL.hide hp ds _ z)
  | .lst ds, _, h => by
    cases h with
    | lst h n m z => exact .lst (by rw [upd_ne (ne_of_none h hp)]; exact h) n (fun q => (List.mem_cons.mp q).elim (ne_of_none h hp) m) (DenL.hide hp ds _ z)
  | .fz ds, _, h => by
    cases h with
    | fz h z => exact .fz (h.imp (fun ⟨o, q⟩ => ⟨o, by rw [upd_ne (ne_of_none q hp)]; exact q⟩) id) (DenL.hide hp ds _ z)
  | .ref n, _, h => by
    cases h with
    | ref h => exact .ref h
theorem DenL.hide {p : Addr} {o : HO} (hp : H p = none) : ∀ (ds : List D) (vs : List V), DenL K H r t vs ds → DenL K (upd H p o) r (p :: t) vs ds
  | [], _, h => by cases h; exact .nil
  | d :: ds, _, h => by
    cases h with
    | cons h1 h2 => exact .cons (Den.hide hp d _ h1) (DenL.hide hp ds _ h2)
end
/- a hidden address is written: what was said stands -/
mutual
theorem Den.over {p : Addr} {o : HO} (hp : p ∈ t) (hT : ∀ xs, H p ≠ some (.tup xs)) (hF : ∀ ob u, H p ≠ some (.frz ob u)) : ∀ (d : D) (v : V), Den K H r t v d → Den K (upd H p o) r t v d
  | .non, _, h => by cases h; exact .non
  | .bl b, _, h => by cases h; exact .bl b
  | .int i, _, h => by cases h; exact .int i
  | .str x, _, h => by cases h; exact .str x
  | .ty n, _, h => by cases h; exact .ty n
  | .tup ds, _, h => by
    cases h with
    | tup h z => exact .tup (by rw [upd_ne (fun e => by subst e; exact hT _ h)]; exact h) (DenL.over hp hT hF ds _ z)
  | .lst ds, _, h => by
    cases h with
    | lst h n m z => exact .lst (by rw [upd_ne (fun e => by subst e; exact m hp)]; exact h) n m (DenL.over hp hT hF ds _ z)
  | .fz ds, _, h => by
    cases h with
    | fz h z => exact .fz (h.imp (fun ⟨o, q⟩ => ⟨o, by rw [upd_ne (fun e => by subst e; exact hF _ _ q)]; exact q⟩) id) (DenL.over hp hT hF ds _ z)
  | .ref n, _, h => by
    cases h with
    | ref h => exact .ref h
theorem DenL.over {p : Addr} {o : HO} (hp : p ∈ t) (hT : ∀ xs, H p ≠ some (.tup xs)) (hF : ∀ ob u, H p ≠ some (.frz ob u)) : ∀ (ds : List D) (vs : List V), DenL K H r t vs ds → DenL K (upd H p o) r t vs ds
  | [], _, h => by cases h; exact .nil
  | d :: ds, _, h => by
    cases h with
    | cons h1 h2 => exact .cons (Den.over hp hT hF d _ h1) (DenL.over hp hT hF ds _ h2)
end
end

/-! ### the store -/
section
variable (K : PySem.W.Frag) (mg : Str → Option Value) (H : Hp) (r t : List Addr)
def CellOk (a : Addr) : Cell → Prop
  | .lst ds => ∃ xs, H a = some (.lst xs) ∧ DenL K H r t xs ds
  | .dK kvs => ∃ ps, H a = some (.dK ps) ∧ DenP K H r t ps kvs
  | .dT kvs => ∃ ps, H a = some (.dT ps) ∧ DenP K H r t ps kvs
  | .ins c fs => ∃ C dx ps, H a = some (.ins C dx ps) ∧ H dx = some (.own a) ∧ mg c = some (.ref C) ∧ DenP K H r t ps fs
structure SOk (S : Sto) : Prop where
  len : r.length = S.length
  nd : r.Nodup
  ok : ∀ (n : Nat) (a : Addr) (c : Cell), r[n]? = some a → S[n]? = some c → CellOk K mg H r t a c
  hid : ∀ a ∈ t, H a ≠ none ∧ a ∉ r
structure Rel (S : Sto) (env : Ev) (σ : St) : Prop where
  so : SOk K mg H r t S
  len : env.length = σ.length
  en : ∀ (i : Nat) (d : D), env[i]? = some (some d) → ∃ v, σ[i]? = some (some v) ∧ Den K H r t v d
end
section
variable {K : PySem.W.Frag} {mg : Str → Option Value} {H H1 : Hp} {r r1 t : List Addr} {S S1 : Sto} {env : Ev} {σ : St}
theorem Rel.ext (R : Rel K mg H r t S env σ) (e : Ext r H r1 H1) (so : SOk K mg H1 r1 t S1) : Rel K mg H1 r1 t S1 env σ :=
  ⟨so, R.len, fun i d h => let ⟨v, h1, h2⟩ := R.en i d h; ⟨v, h1, Den.ext e d v h2⟩⟩
theorem Rel.set (R : Rel K mg H r t S env σ) (i : Nat) {v : V} {d : D} (h : Den K H r t v d) : Rel K mg H r t S (env.set i (some d)) (σ.set i (some v)) := by
  refine ⟨R.so, by rw [List.length_set, List.length_set, R.len], fun j e q => ?_⟩
  by_cases hj : i = j
  · subst hj
    by_cases hl : i < env.length
    · rw [List.getElem?_set_self hl] at q
      have q' := Option.some.inj (Option.some.inj q)
      subst q'
      exact ⟨v, by rw [List.getElem?_set_self (by rw [← R.len]; exact hl)], h⟩
    · rw [List.getElem?_eq_none (by rw [List.length_set]; omega)] at q
      cases q
  · rw [List.getElem?_set_ne hj] at q
    obtain ⟨w, h1, h2⟩ := R.en j e q
    exact ⟨w, by rw [List.getElem?_set_ne hj]; exact h1, h2⟩
theorem Rel.wipe (R : Rel K mg H r t S env σ) (i : Nat) : Rel K mg H r t S (env.set i none) (σ.set i none) := by
  refine ⟨R.so, by rw [List.length_set, List.length_set, R.len], fun j e q => ?_⟩
  by_cases hj : i = j
  · subst hj
    by_cases hl : i < env.length
    · rw [List.getElem?_set_self hl] at q
      cases q
    · rw [List.getElem?_eq_none (by rw [List.length_set]; omega)] at q
      cases q
  · rw [List.getElem?_set_ne hj] at q
    obtain ⟨w, h1, h2⟩ := R.en j e q
    exact ⟨w, by rw [List.getElem?_set_ne hj]; exact h1, h2⟩
/-- a new object that is no cell -/
theorem Ext.new {p : Addr} {o : HO} (hp : H p = none) : Ext r H r (upd H p o) := by
  have ne : ∀ b u, H b = some u → b ≠ p := fun b u h => ne_of_none h hp
  refine ⟨⟨[], by simp⟩, fun b u h _ => ?_, fun b u h => ?_, fun b u w h => ?_, fun b u h => ?_, fun b h => ?_⟩
  · rw [upd_ne (ne b _ h)]; exact h
  · rw [upd_ne (ne b _ h)]; exact h
  · rw [upd_ne (ne b _ h)]; exact h
  · rw [upd_ne (ne b _ h)]; exact h
  · by_cases e : b = p
    · subst e; rw [upd_same]; exact fun z => nomatch z
    · rw [upd_ne e]; exact h
theorem CellOk.at (so : SOk K mg H r t S) (e : Ext r H r1 H1) {a : Addr} {c : Cell} (h : CellOk K mg H r t a c) (k : H1 a = H a) : CellOk K mg H1 r1 t a c := by
  cases c with
  | lst ds => obtain ⟨xs, h1, h2⟩ := h; exact ⟨xs, k.trans h1, DenL.ext e _ _ h2⟩
  | dK ds => obtain ⟨xs, h1, h2⟩ := h; exact ⟨xs, k.trans h1, DenP.ext e h2⟩
  | dT ds => obtain ⟨xs, h1, h2⟩ := h; exact ⟨xs, k.trans h1, DenP.ext e h2⟩
  | ins c fs => obtain ⟨C, dx, ps, h1, h2, h3, h4⟩ := h; exact ⟨C, dx, ps, k.trans h1, e.owns _ _ h2, h3, DenP.ext e h4⟩
theorem CellOk.there {a : Addr} {c : Cell} (h : CellOk K mg H r t a c) : ∃ o, H a = some o ∧ Mut (some o) := by
  cases c with
  | lst ds => obtain ⟨xs, h1, h2⟩ := h; exact ⟨_, h1, trivial⟩
  | dK ds => obtain ⟨xs, h1, h2⟩ := h; exact ⟨_, h1, trivial⟩
  | dT ds => obtain ⟨xs, h1, h2⟩ := h; exact ⟨_, h1, trivial⟩
  | ins c fs => obtain ⟨C, dx, ps, h1, h2, h3, h4⟩ := h; exact ⟨_, h1, trivial⟩
theorem SOk.cell (so : SOk K mg H r t S) {n : Nat} {a : Addr} (h : r[n]? = some a) : ∃ c, S[n]? = some c ∧ CellOk K mg H r t a c := by
  have hn : n < S.length := by rw [← so.len]; exact (List.getElem?_eq_some_iff.mp h).1
  exact ⟨S[n], List.getElem?_eq_getElem hn, so.ok n a _ h (List.getElem?_eq_getElem hn)⟩
theorem SOk.addr (so : SOk K mg H r t S) {n : Nat} {c : Cell} (h : S[n]? = some c) : ∃ a, r[n]? = some a ∧ CellOk K mg H r t a c := by
  have hn : n < r.length := by rw [so.len]; exact (List.getElem?_eq_some_iff.mp h).1
  exact ⟨r[n], List.getElem?_eq_getElem hn, so.ok n _ _ (List.getElem?_eq_getElem hn) h⟩
theorem SOk.memThere (so : SOk K mg H r t S) {a : Addr} (h : a ∈ r) : ∃ o, H a = some o ∧ Mut (some o) := by
  obtain ⟨n, hn, e⟩ := List.getElem_of_mem h
  obtain ⟨c, _, ok⟩ := so.cell (n := n) (a := a) (by rw [List.getElem?_eq_getElem hn, e])
  exact ok.there
/-- .. the store stands -/
theorem SOk.new {p : Addr} {o : HO} (so : SOk K mg H r t S) (hp : H p = none) : SOk K mg (upd H p o) r t S := by
  refine ⟨so.len, so.nd, fun n a c h1 h2 => ?_, fun a ha => ⟨(Ext.new (r := r) hp).there a (so.hid a ha).1, (so.hid a ha).2⟩⟩
  have ok := so.ok n a c h1 h2
  obtain ⟨u, e, _⟩ := ok.there
  exact ok.at so (Ext.new hp) (upd_ne (ne_of_none e hp))
/-- a new cell -/
theorem Ext.grow {p : Addr} {o : HO} (hp : H p = none) : Ext r H (r ++ [p]) (upd H p o) := by
  have e := Ext.new (r := r) (o := o) hp
  exact ⟨⟨[p], rfl, fun q hq => by have z : q = p := by simpa using hq
                                   subst z; exact hp⟩, e.keep, e.tups, e.frzs, e.owns, e.there⟩
theorem SOk.grow {p : Addr} {o : HO} {c : Cell} (so : SOk K mg H r t S) (hp : H p = none) (hc : CellOk K mg (upd H p o) (r ++ [p]) t p c) : SOk K mg (upd H p o) (r ++ [p]) t (S ++ [c]) := by
  refine ⟨by rw [List.length_append, List.length_append, so.len]; rfl, ?_, fun n a d h1 h2 => ?_, fun a ha => ⟨(Ext.new (r := r) hp).there a (so.hid a ha).1, fun q => ?_⟩⟩
  · rw [List.nodup_append]
    refine ⟨so.nd, by simp, fun a ha b hb => ?_⟩
    have z : b = p := by simpa using hb
    obtain ⟨u, e, _⟩ := so.memThere ha
    rw [z]
    exact ne_of_none e hp
  · by_cases hn : n < r.length
    · rw [List.getElem?_append_left hn] at h1
      rw [List.getElem?_append_left (by rw [← so.len]; exact hn)] at h2
      have ok := so.ok n a d h1 h2
      obtain ⟨u, e, _⟩ := ok.there
      exact ok.at so (Ext.grow hp) (upd_ne (ne_of_none e hp))
    · have e1 := (List.getElem?_eq_some_iff.mp h1).1
      rw [List.length_append] at e1
      have e2 : n = r.length := by
        have : ([p] : List Addr).length = 1 := rfl
        omega
      subst e2
      rw [List.getElem?_append_right (Nat.le_refl _), Nat.sub_self] at h1
      rw [so.len, List.getElem?_append_right (Nat.le_refl _), Nat.sub_self] at h2
      have z1 : p = a := Option.some.inj h1
      have z2 : c = d := Option.some.inj h2
      subst z1 z2
      exact hc
  · rcases List.mem_append.mp q with z | z
    · exact (so.hid a ha).2 z
    · have y : a = p := by simpa using z
      subst y
      exact (so.hid a ha).1 hp
/-- a cell is written -/
theorem Ext.write {p : Addr} {o u : HO} (hu : H p = some u) (mu : Mut (some u)) (hm : p ∈ r) : Ext r H r (upd H p o) := by
  refine ⟨⟨[], by simp⟩, fun b w h hb => ?_, fun b w h => ?_, fun b w w2 h => ?_, fun b w h => ?_, fun b h => ?_⟩
  · rw [upd_ne (fun e => by subst e; exact hb hm)]; exact h
  · rw [upd_ne (fun e => by subst e; rw [hu] at h; cases h; exact mu)]; exact h
  · rw [upd_ne (fun e => by subst e; rw [hu] at h; cases h; exact mu)]; exact h
  · rw [upd_ne (fun e => by subst e; rw [hu] at h; cases h; exact mu)]; exact h
  · by_cases e : b = p
    · subst e; rw [upd_same]; exact fun z => nomatch z
    · rw [upd_ne e]; exact h
theorem nodup_get {l : List Addr} (h : l.Nodup) {i j : Nat} {a : Addr} (h1 : l[i]? = some a) (h2 : l[j]? = some a) : i = j := by
  obtain ⟨b1, e1⟩ := List.getElem?_eq_some_iff.mp h1
  obtain ⟨b2, e2⟩ := List.getElem?_eq_some_iff.mp h2
  exact (List.getElem_inj h).mp (e1.trans e2.symm)
theorem SOk.write {n : Nat} {p : Addr} {o : HO} {c : Cell} (so : SOk K mg H r t S) (hn : r[n]? = some p) (hc : CellOk K mg (upd H p o) r t p c) : SOk K mg (upd H p o) r t (S.set n c) := by
  have hm : p ∈ r := List.mem_of_getElem? hn
  obtain ⟨u, hu, mu⟩ := so.memThere hm
  refine ⟨by rw [List.length_set]; exact so.len, so.nd, fun j a d h1 h2 => ?_, fun a ha => ⟨(Ext.write (o := o) hu mu hm).there a (so.hid a ha).1, (so.hid a ha).2⟩⟩
  by_cases hj : n = j
  · subst hj
    rw [hn] at h1
    have z1 : p = a := Option.some.inj h1
    subst z1
    rw [List.getElem?_set_self (by rw [← so.len]; exact (List.getElem?_eq_some_iff.mp hn).1)] at h2
    have z2 : c = d := Option.some.inj h2
    subst z2
    exact hc
  · rw [List.getElem?_set_ne hj] at h2
    exact (so.ok j a d h1 h2).at so (Ext.write hu mu hm) (upd_ne fun e => hj (by subst e; exact nodup_get so.nd hn h1))
end
end DL
end L2

set_option Elab.async false
set_option linter.all false
set_option maxRecDepth 100000
namespace L2
namespace DL
open PySem PySem.Spec PyProof.Rows

abbrev DE := Ev → Sto → Out D
abbrev DB := Ev → Sto → Out Bool
abbrev DA := Ev → Sto → Out (List D)
abbrev Fn := List D → Sto → Out D

/-! ### what is wanted of an outcome -/
section
variable (K : PySem.W.Frag) (mg : Str → Option Value) (t : List Addr) (E : Addr → Hp → Prop)
def Good {A : Type} (r : List Addr) (H : Hp) (m : Out A) (R : A → Sto → List Addr → Hp → Prop) : Prop := match m with
  | .ok a S => ∀ H' r', Ext r H r' H' → SOk K mg H' r' t S → R a S r' H'
  | .exc c S => ∀ C H' r', mg c = some (.ref C) → Ext r H r' H' → SOk K mg H' r' t S → E C H'
  | .bad => False
end
section
variable {K : PySem.W.Frag} {mg : Str → Option Value} {t : List Addr} {E : Addr → Hp → Prop} {r r1 : List Addr} {H H1 : Hp} {A B : Type} {S : Sto}
theorem Good.ext {m : Out A} {R : A → Sto → List Addr → Hp → Prop} (g : Good K mg t E r H m R) (e : Ext r H r1 H1) : Good K mg t E r1 H1 m R := by
  cases m with
  | ok a S => exact fun H' r' e' so => g H' r' (e.trans e') so
  | exc c S => exact fun C H' r' h e' so => g C H' r' h (e.trans e') so
  | bad => exact g
theorem Good.bind {m : Out A} {k : A → Sto → Out B} {R : B → Sto → List Addr → Hp → Prop} (g : Good K mg t E r H (m.bind k) R) : Good K mg t E r H m fun a S r' H' => Good K mg t E r' H' (k a S) R := by
  cases m with
  | ok a S => exact fun H' r' e so => Good.ext (show Good K mg t E r H (k a S) R from g) e
  | exc c S => exact g
  | bad => exact g
theorem Good.mono {m : Out A} {R R' : A → Sto → List Addr → Hp → Prop} (g : Good K mg t E r H m R) (h : ∀ a S r' H', Ext r H r' H' → SOk K mg H' r' t S → R a S r' H' → R' a S r' H') : Good K mg t E r H m R' := by
  cases m with
  | ok a S => exact fun H' r' e so => h a S r' H' e so (g H' r' e so)
  | exc c S => exact g
  | bad => exact g
theorem Good.here {a : A} {R : A → Sto → List Addr → Hp → Prop} (g : Good K mg t E r H (.ok a S) R) (so : SOk K mg H r t S) : R a S r H := g H r (Ext.refl r H) so
theorem Good.lift {o : Option A} {R : A → Sto → List Addr → Hp → Prop} (g : Good K mg t E r H (lift o S) R) : ∃ a, o = some a ∧ Good K mg t E r H (.ok a S) R := by
  cases o with
  | none => exact (show False from g).elim
  | some a => exact ⟨a, rfl, g⟩
end

/-! ### readings -/
abbrev EW (W : WX) (σ : St) : Addr → Hp → Prop := fun C H' => W (.ref C) none σ H'
def tE (X : Cx) (W : WX) (f : DE) : TE := fun σ H Q => ∃ r t S env, Rel X.K X.mg H r t S env σ ∧ Good X.K X.mg t (EW W σ) r H (f env S) fun d _ r' H' => ∀ v, Den X.K H' r' t v d → Q v H'
def tB' (X : Cx) (W : WX) (f : DB) : TT := fun σ H Q => ∃ r t S env, Rel X.K X.mg H r t S env σ ∧ Good X.K X.mg t (EW W σ) r H (f env S) fun d _ r' H' => Q d H'
def tA (X : Cx) (W : WX) (f : DA) : TA := fun σ H Q => ∃ r t S env, Rel X.K X.mg H r t S env σ ∧ Good X.K X.mg t (EW W σ) r H (f env S) fun ds _ r' H' => ∀ vs, DenL X.K H' r' t vs ds → Q vs H'

section
variable {X : Cx} {W : WX} {e a b c : Expr} {es : List Expr} {f fa fb fc : DE} {pos : Pos} {te : TE} {σ : St} {H : Hp}
theorem PE.imp {e : Expr} {u u' : TE} (h : PE X e u) (k : ∀ σ H Q, u' σ H Q → u σ H Q) : PE X e u' := ⟨fun pins s σ H Q I q => h.run pins s σ H Q I (k σ H Q q)⟩
theorem PT.imp {e : Expr} {u u' : TT} (h : PT X e u) (k : ∀ σ H Q, u' σ H Q → u σ H Q) : PT X e u' := ⟨fun pins s σ H Q I q => h.run pins s σ H Q I (k σ H Q q)⟩
theorem PA.imp {e : List Expr} {u u' : TA} (h : PA X e u) (k : ∀ σ H Q, u' σ H Q → u σ H Q) : PA X e u' := ⟨fun pos pins s σ H Q I q => h.run pos pins s σ H Q I (k σ H Q q)⟩

/-- one expression, then what hangs on it -/
theorem tE_one {k : Ev → D → Sto → Out D} {Q : VK} {R : V → Hp → Prop} (h : tE X W (fun env S => (fa env S).bind (k env)) σ H Q)
    (hk : ∀ r t S env x v H', Rel X.K X.mg H' r t S env σ → Den X.K H' r t v x → Good X.K X.mg t (EW W σ) r H' (k env x S) (fun d _ r' H' => ∀ v, Den X.K H' r' t v d → Q v H') → R v H') : tE X W fa σ H R := by
  obtain ⟨r, t, S, env, rel, g⟩ := h
  exact ⟨r, t, S, env, rel, g.bind.mono fun x S1 r1 H1 e so g1 v dv => hk r1 t S1 env x v H1 (rel.ext e so) dv g1⟩
/-- two in a row -/
theorem tE_two {k : Ev → D → D → Sto → Out D} {Q : VK} {R : V → V → Hp → Prop} (h : tE X W (fun env S => (fa env S).bind fun x S1 => (fb env S1).bind fun y S2 => k env x y S2) σ H Q)
    (hk : ∀ r t S env x y v u H', Rel X.K X.mg H' r t S env σ → Den X.K H' r t v x → Den X.K H' r t u y → Good X.K X.mg t (EW W σ) r H' (k env x y S) (fun d _ r' H' => ∀ v, Den X.K H' r' t v d → Q v H') → R v u H') :
    tE X W fa σ H fun v H1 => tE X W fb σ H1 fun u H2 => R v u H2 := by
  obtain ⟨r, t, S, env, rel, g⟩ := h
  refine ⟨r, t, S, env, rel, g.bind.mono fun x S1 r1 H1 e so g1 v dv => ?_⟩
  exact ⟨r1, t, S1, env, rel.ext e so, g1.bind.mono fun y S2 r2 H2 e2 so2 g2 u du => hk r2 t S2 env x y v u H2 ((rel.ext e so).ext e2 so2) (Den.ext e2 x v dv) du g2⟩

/-! ### names, constants -/
def dVar (i : Nat) : DE := fun env S => match env[i]? with
  | some (some d) => .ok d S
  | _ => .bad
def dC (d : D) : DE := fun _ S => .ok d S
theorem de_var (i : Nat) {x : Str} {pos : Pos} (hN : X.N[i]? = some x := by rfl) (hv : Vis X.env.scope x := by first | exact Or.inl rfl | exact Or.inr (Or.inl rfl) | exact Or.inr (Or.inr rfl)) (hd : (x == ("__debug__" : Str)) = false := by decide)
    (hcd : (x == ("__classdict__" : Str)) = false := by decide) : PE X (.Name x pos) (tE X W (dVar i)) := by
  refine PE.imp (pe_var hN hv hd hcd) fun σ H Q h => ?_
  obtain ⟨r, t, S, env, rel, g⟩ := h
  unfold dVar at g
  split at g
  · rename_i d q
    obtain ⟨v, h1, h2⟩ := rel.en i d q
    exact ⟨v, h1, g.here rel.so v h2⟩
  · exact (show False from g).elim
theorem de_const {v : V} {d : D} (h : PE X e (tC v)) (hd : ∀ K H r t, Den K H r t v d) : PE X e (tE X W (dC d)) := by
  refine PE.imp h fun σ H Q q => ?_
  obtain ⟨r, t, S, env, rel, g⟩ := q
  exact g.here rel.so v (hd _ _ _ _)
theorem de_int {i j} : PE X (.Constant (.int i) j pos) (tE X W (dC (.int i))) := de_const pe_int fun _ _ _ _ => .int i
theorem de_bl {b j} : PE X (.Constant (.bool b) j pos) (tE X W (dC (.bl b))) := de_const pe_bl fun _ _ _ _ => .bl b
theorem de_non {j} : PE X (.Constant .none j pos) (tE X W (dC .non)) := de_const pe_non fun _ _ _ _ => .non
theorem de_str {x j} : PE X (.Constant (.str x) j pos) (tE X W (dC (.str x))) := de_const pe_str fun _ _ _ _ => .str x
theorem de_ty {x : Str} {n : String} (hg : Gl X x) (hm : X.mg x = none) (hv : bootBuiltins x = some (.type n)) (hn : x ≠ "__name__" := by decide) (hd : (x == ("__debug__" : Str)) = false := by decide) : PE X (.Name x pos) (tE X W (dC (.ty n))) :=
  de_const (pe_bltn hg hm hv (v := .ty n) rfl hn hd) fun _ _ _ _ => .ty n
/-- a constant of the module -/
theorem de_glob {x : Str} {v : V} {u : Value} {d : D} (hg : Gl X x) (hm : X.mg x = some u) (rv : RelV v u) (hd : ∀ H r t, Den X.K H r t v d) (hb : (x == ("__debug__" : Str)) = false := by decide) : PE X (.Name x pos) (tE X W (dC d)) := by
  refine PE.imp (pe_glob hg hm rv hb) fun σ H Q q => ?_
  obtain ⟨r, t, S, env, rel, g⟩ := q
  exact g.here rel.so v (hd _ _ _)

/-! ### operators -/
structure OpD (X : Cx) (f : Value → Value → Sem Value) (o : Sto → D → D → Option D) : Prop where
  ex : ∃ rr : R2, OpR X f rr ∧ ∀ r t S H x y v u d (Q : VK), SOk X.K X.mg H r t S → Den X.K H r t v x → Den X.K H r t u y → o S x y = some d →
    (∀ w H', Ext r H r H' → SOk X.K X.mg H' r t S → Den X.K H' r t w d → Q w H') → rr v u H Q
def orO (o o' : Sto → D → D → Option D) : Sto → D → D → Option D := fun S x y => match o S x y with
  | some d => some d
  | none => o' S x y
theorem OpD.or {f : Value → Value → Sem Value} {o o' : Sto → D → D → Option D} (h : OpD X f o) (h' : OpD X f o') : OpD X f (orO o o') := by
  obtain ⟨r1, h1, k1⟩ := h
  obtain ⟨r2, h2, k2⟩ := h'
  refine ⟨_, h1.or h2, fun r t S H x y v u d Q so dx dy e q => ?_⟩
  unfold orO at e
  split at e
  · rename_i d' e'
    cases e
    exact .inl (k1 r t S H x y v u _ Q so dx dy e' q)
  · exact .inr (k2 r t S H x y v u d Q so dx dy e q)
def dBin (o : Sto → D → D → Option D) (fa fb : DE) : DE := fun env S => (fa env S).bind fun x S1 => (fb env S1).bind fun y S2 => lift (o S2 x y) S2
theorem tE_op {o : Sto → D → D → Option D} {f : Value → Value → Sem Value} {rr : R2} {Q : VK}
    (k : ∀ r t S H x y v u d (Q : VK), SOk X.K X.mg H r t S → Den X.K H r t v x → Den X.K H r t u y → o S x y = some d → (∀ w H', Ext r H r H' → SOk X.K X.mg H' r t S → Den X.K H' r t w d → Q w H') → rr v u H Q)
    (h : tE X W (dBin o fa fb) σ H Q) : tOp rr (tE X W fa) (tE X W fb) σ H Q :=
  tE_two h fun r t S env x y v u H' rel dx dy g => by
    obtain ⟨d, e, g⟩ := g.lift
    exact k r t S H' x y v u d Q rel.so dx dy e fun w H2 ex so dw => g H2 r ex so w dw
theorem de_bin {op : Operator} {o : Sto → D → D → Option D} (ho : OpD X (binaryOp op) o) (ha : PE X a (tE X W fa)) (hb : PE X b (tE X W fb)) : PE X (.BinOp a op b pos) (tE X W (dBin o fa fb)) := by
  obtain ⟨rr, h, k⟩ := ho
  exact PE.imp (pe_op h ha hb) fun σ H Q q => tE_op (f := binaryOp op) k q
theorem de_cmp {op : CmpOp} {o : Sto → D → D → Option D} (ho : OpD X (compareOp op) o) (ha : PE X a (tE X W fa)) (hb : PE X b (tE X W fb)) (hm : behindInMarks op b = false) : PE X (.Compare a [op] [b] pos) (tE X W (dBin o fa fb)) := by
  obtain ⟨rr, h, k⟩ := ho
  exact PE.imp (pe_cmpR h ha hb hm) fun σ H Q q => tE_op (f := compareOp op) k q
/-- a test by a value that is a truth -/
def asB : D → Option Bool
  | .bl b => some b
  | _ => none
def dTst (f : DE) : DB := fun env S => (f env S).bind fun d S1 => lift (asB d) S1
theorem asB_eq {d : D} {b : Bool} (h : asB d = some b) : d = .bl b := by
  cases d <;> simp [asB] at h
  rw [h]
theorem tB_test {te : TE} (h : ∀ σ H Q, tE X W f σ H Q → te σ H Q) {Q : Bool → Hp → Prop} (q : tB' X W (dTst f) σ H Q) : te σ H fun x H' => ∃ k, x = .bl k ∧ Q k H' := by
  refine h σ H _ ?_
  obtain ⟨r, t, S, env, rel, g⟩ := q
  refine ⟨r, t, S, env, rel, g.bind.mono fun x S1 r1 H1 e so g1 v dv => ?_⟩
  obtain ⟨b, eb, g2⟩ := g1.lift
  have ed := asB_eq eb
  subst ed
  cases dv
  exact ⟨b, rfl, g2.here so⟩
theorem dt_cmp {op : CmpOp} {o : Sto → D → D → Option D} (ho : OpD X (compareOp op) o) (ha : PE X a (tE X W fa)) (hb : PE X b (tE X W fb)) (hm : behindInMarks op b = false) : PT X (.Compare a [op] [b] pos) (tB' X W (dTst (dBin o fa fb))) := by
  obtain ⟨rr, h, k⟩ := ho
  exact PT.imp (pt_cmpR h ha hb hm) fun σ H Q q => tB_test (te := tOp rr (tE X W fa) (tE X W fb)) (fun σ H Q q => tE_op (f := compareOp op) k q) q
theorem dt_val (he : PE X e (tE X W f)) (ht : ∀ whole, isTrue e X.env whole = (do let v ← whole; standAt e.pos; holding [v] (truthy v)) := by intro _; rfl) : PT X e (tB' X W (dTst f)) :=
  PT.imp (pt_val he ht) fun σ H Q q => tB_test (te := tE X W f) (fun _ _ _ z => z) q
/-- a op1 b op2 c -/
def dChain (o o' : Sto → D → D → Option D) (fa fb fc : DE) : DE := fun env S => (fa env S).bind fun x S1 => (fb env S1).bind fun y S2 => (lift (o S2 x y) S2).bind fun z S3 => (lift (asB z) S3).bind fun k S4 =>
  if k = true then (fc env S4).bind fun w S5 => lift (o' S5 y w) S5 else .ok (.bl false) S4
theorem tE_chain {o o' : Sto → D → D → Option D} {f f' : Value → Value → Sem Value} {rr rr' : R2} {Q : VK}
    (k : ∀ r t S H x y v u d (Q : VK), SOk X.K X.mg H r t S → Den X.K H r t v x → Den X.K H r t u y → o S x y = some d → (∀ w H', Ext r H r H' → SOk X.K X.mg H' r t S → Den X.K H' r t w d → Q w H') → rr v u H Q)
    (k' : ∀ r t S H x y v u d (Q : VK), SOk X.K X.mg H r t S → Den X.K H r t v x → Den X.K H r t u y → o' S x y = some d → (∀ w H', Ext r H r H' → SOk X.K X.mg H' r t S → Den X.K H' r t w d → Q w H') → rr' v u H Q)
    (h : tE X W (dChain o o' fa fb fc) σ H Q) : tChain rr rr' (tE X W fa) (tE X W fb) (tE X W fc) σ H Q :=
  tE_two h fun r t S env x y v u H' rel dx dy g => by
    obtain ⟨z, e, g⟩ := g.bind.lift
    refine k r t S H' x y v u z _ rel.so dx dy e fun w H2 ex so dw => ?_
    have g2 := (g H2 r ex so).bind
    obtain ⟨kk, e2, g3⟩ := g2.lift
    have ez := asB_eq e2
    subst ez
    cases dw
    refine ⟨kk, rfl, ?_⟩
    have g4 := g3.here so
    cases kk with
    | false =>
      rw [if_neg Bool.false_ne_true] at g4 ⊢
      exact g4.here so _ (.bl false)
    | true =>
      rw [if_pos rfl] at g4 ⊢
      refine ⟨r, t, S, env, rel.ext ex so, g4.bind.mono fun x2 S5 r5 H5 e5 so5 g5 v5 d5 => ?_⟩
      obtain ⟨d, e6, g6⟩ := g5.lift
      exact k' r5 t S5 H5 y x2 u v5 d Q so5 (Den.ext e5 _ _ (Den.ext ex _ _ dy)) d5 e6 fun w H6 ex6 so6 dw6 => g6 H6 r5 ex6 so6 w dw6
theorem de_chain {op op' : CmpOp} {o o' : Sto → D → D → Option D} (ho : OpD X (compareOp op) o) (ho' : OpD X (compareOp op') o') (ha : PE X a (tE X W fa)) (hb : PE X b (tE X W fb)) (hc : PE X c (tE X W fc))
    (hm : lastMarks [op, op'] [b, c] = false := by with_unfolding_all rfl) : PE X (.Compare a [op, op'] [b, c] pos) (tE X W (dChain o o' fa fb fc)) := by
  obtain ⟨rr, h, k⟩ := ho
  obtain ⟨rr', h', k'⟩ := ho'
  exact PE.imp (pe_chain h h' ha hb hc hm) fun σ H Q q => tE_chain (f := compareOp op) (f' := compareOp op') k k' q
theorem dt_chain {op op' : CmpOp} {o o' : Sto → D → D → Option D} (ho : OpD X (compareOp op) o) (ho' : OpD X (compareOp op') o') (ha : PE X a (tE X W fa)) (hb : PE X b (tE X W fb)) (hc : PE X c (tE X W fc))
    (hm : lastMarks [op, op'] [b, c] = false := by with_unfolding_all rfl) : PT X (.Compare a [op, op'] [b, c] pos) (tB' X W (dTst (dChain o o' fa fb fc))) := by
  obtain ⟨rr, h, k⟩ := ho
  obtain ⟨rr', h', k'⟩ := ho'
  exact PT.imp (pt_chain h h' ha hb hc hm) fun σ H Q q => tB_test (te := tChain rr rr' (tE X W fa) (tE X W fb) (tE X W fc)) (fun σ H Q q => tE_chain (f := compareOp op) (f' := compareOp op') k k' q) q

/-! ### and, or, not, if else -/
def dAnd (fa fb : DE) : DE := fun env S => (fa env S).bind fun x S1 => (lift (asB x) S1).bind fun k S2 => if k = true then fb env S2 else .ok (.bl false) S2
def dOr (fa fb : DE) : DE := fun env S => (fa env S).bind fun x S1 => (lift (asB x) S1).bind fun k S2 => if k = true then .ok (.bl true) S2 else fb env S2
def dNot (fa : DE) : DE := fun env S => (fa env S).bind fun x S1 => (lift (asB x) S1).bind fun k S2 => .ok (.bl (!k)) S2
def bAnd (ta tb : DB) : DB := fun env S => (ta env S).bind fun k S1 => if k = true then tb env S1 else .ok false S1
def bOr (ta tb : DB) : DB := fun env S => (ta env S).bind fun k S1 => if k = true then .ok true S1 else tb env S1
def bNot (ta : DB) : DB := fun env S => (ta env S).bind fun k S1 => .ok (!k) S1
def dIf (tc : DB) (fa fb : DE) : DE := fun env S => (tc env S).bind fun k S1 => if k = true then fa env S1 else fb env S1
variable {rest : List Expr} {ga gb : DB}
theorem de_and (ha : PE X a (tE X W fa)) (hb : PE X (.BoolOp .And (b :: rest) pos) (tE X W fb)) : PE X (.BoolOp .And (a :: b :: rest) pos) (tE X W (dAnd fa fb)) := by
  refine PE.imp (pe_and ha hb) fun σ H Q q => ?_
  obtain ⟨r, t, S, env, rel, g⟩ := q
  refine ⟨r, t, S, env, rel, g.bind.mono fun x S1 r1 H1 e so g1 v dv => ?_⟩
  obtain ⟨k, ek, g2⟩ := g1.bind.lift
  have ed := asB_eq ek
  subst ed
  cases dv
  refine ⟨k, rfl, ?_⟩
  have g3 := g2.here so
  cases k with
  | true => exact iteT ⟨r1, t, S1, env, rel.ext e so, g3⟩
  | false => exact iteF (Good.here g3 so _ (.bl false))
theorem de_or (ha : PE X a (tE X W fa)) (hb : PE X (.BoolOp .Or (b :: rest) pos) (tE X W fb)) : PE X (.BoolOp .Or (a :: b :: rest) pos) (tE X W (dOr fa fb)) := by
  refine PE.imp (pe_or ha hb) fun σ H Q q => ?_
  obtain ⟨r, t, S, env, rel, g⟩ := q
  refine ⟨r, t, S, env, rel, g.bind.mono fun x S1 r1 H1 e so g1 v dv => ?_⟩
  obtain ⟨k, ek, g2⟩ := g1.bind.lift
  have ed := asB_eq ek
  subst ed
  cases dv
  refine ⟨k, rfl, ?_⟩
  have g3 := g2.here so
  cases k with
  | false => exact iteF ⟨r1, t, S1, env, rel.ext e so, g3⟩
  | true => exact iteT (Good.here g3 so _ (.bl true))
theorem de_one {op} (ha : PE X a (tE X W fa)) : PE X (.BoolOp op [a] pos) (tE X W fa) := pe_one ha
theorem de_not (ha : PE X a (tE X W fa)) : PE X (.UnaryOp .Not a pos) (tE X W (dNot fa)) := by
  refine PE.imp (pe_not ha) fun σ H Q q => ?_
  obtain ⟨r, t, S, env, rel, g⟩ := q
  refine ⟨r, t, S, env, rel, g.bind.mono fun x S1 r1 H1 e so g1 v dv => ?_⟩
  obtain ⟨k, ek, g2⟩ := g1.bind.lift
  have ed := asB_eq ek
  subst ed
  cases dv
  exact ⟨k, rfl, Good.here (g2.here so) so _ (.bl (!k))⟩
theorem PW.imp {e : Expr} {u u' : TT} (h : PW X e u) (k : ∀ σ H Q, u' σ H Q → u σ H Q) : PW X e u' := ⟨fun wh pins s σ H Q I q => h.run wh pins s σ H Q I (k σ H Q q)⟩
theorem dw_and1 (ha : PT X a (tB' X W ga)) : PW X (.BoolOp .And [a] pos) (tB' X W ga) := pw_and1 ha
theorem dw_or1 (ha : PT X a (tB' X W ga)) : PW X (.BoolOp .Or [a] pos) (tB' X W ga) := pw_or1 ha
theorem dw_and (ha : PT X a (tB' X W ga)) (hb : PW X (.BoolOp .And (b :: rest) pos) (tB' X W gb)) : PW X (.BoolOp .And (a :: b :: rest) pos) (tB' X W (bAnd ga gb)) := by
  refine PW.imp (pw_and ha hb) fun σ H Q q => ?_
  obtain ⟨r, t, S, env, rel, g⟩ := q
  refine ⟨r, t, S, env, rel, g.bind.mono fun k S1 r1 H1 e so g1 => ?_⟩
  cases k with
  | true => exact iteT ⟨r1, t, S1, env, rel.ext e so, g1⟩
  | false => exact iteF (Good.here g1 so)
theorem dw_or (ha : PT X a (tB' X W ga)) (hb : PW X (.BoolOp .Or (b :: rest) pos) (tB' X W gb)) : PW X (.BoolOp .Or (a :: b :: rest) pos) (tB' X W (bOr ga gb)) := by
  refine PW.imp (pw_or ha hb) fun σ H Q q => ?_
  obtain ⟨r, t, S, env, rel, g⟩ := q
  refine ⟨r, t, S, env, rel, g.bind.mono fun k S1 r1 H1 e so g1 => ?_⟩
  cases k with
  | false => exact iteF ⟨r1, t, S1, env, rel.ext e so, g1⟩
  | true => exact iteT (Good.here g1 so)
theorem dt_not (ha : PT X a (tB' X W ga)) : PT X (.UnaryOp .Not a pos) (tB' X W (bNot ga)) := by
  refine PT.imp (pt_not ha) fun σ H Q q => ?_
  obtain ⟨r, t, S, env, rel, g⟩ := q
  exact ⟨r, t, S, env, rel, g.bind.mono fun k S1 r1 H1 e so g1 => Good.here g1 so⟩
theorem de_if {c : Expr} (hc : PT X c (tB' X W ga)) (ha : PE X a (tE X W fa)) (hb : PE X b (tE X W fb)) : PE X (.IfExp c a b pos) (tE X W (dIf ga fa fb)) := by
  refine PE.imp (pe_ifExp hc ha hb) fun σ H Q q => ?_
  obtain ⟨r, t, S, env, rel, g⟩ := q
  refine ⟨r, t, S, env, rel, g.bind.mono fun k S1 r1 H1 e so g1 => ?_⟩
  cases k with
  | true => exact iteT ⟨r1, t, S1, env, rel.ext e so, g1⟩
  | false => exact iteF ⟨r1, t, S1, env, rel.ext e so, g1⟩

/-! ### argument lists, displays -/
def aNil : DA := fun _ S => .ok [] S
def aCons (f : DE) (g : DA) : DA := fun env S => (f env S).bind fun d S1 => (g env S1).bind fun ds S2 => .ok (d :: ds) S2
variable {fs : DA}
theorem da_nil : PA X [] (tA X W aNil) := by
  refine PA.imp pa_nil fun σ H Q q => ?_
  obtain ⟨r, t, S, env, rel, g⟩ := q
  exact Good.here g rel.so [] .nil
theorem da_cons (ha : PE X e (tE X W f)) (hr : PA X es (tA X W fs)) (hs : starEach (e :: es) X.env = (false, eval e X.env) :: starEach es X.env := by rfl) : PA X (e :: es) (tA X W (aCons f fs)) := by
  refine PA.imp (pa_cons ha hr hs) fun σ H Q q => ?_
  obtain ⟨r, t, S, env, rel, g⟩ := q
  refine ⟨r, t, S, env, rel, g.bind.mono fun d S1 r1 H1 ex so g1 v dv => ?_⟩
  refine ⟨r1, t, S1, env, rel.ext ex so, g1.bind.mono fun ds S2 r2 H2 ex2 so2 g2 vs dvs => ?_⟩
  exact Good.here g2 so2 _ (.cons (Den.ext ex2 _ _ dv) dvs)
def dTup (fs : DA) : DE := fun env S => (fs env S).bind fun ds S1 => if ds.length ≤ sizeLine then .ok (.tup ds) S1 else .bad
def dLst (fs : DA) : DE := fun env S => (fs env S).bind fun ds S1 => if ds.length ≤ sizeLine then .ok (.lst ds) S1 else .bad
/-- a list that will be changed -/
def dCell (fs : DA) : DE := fun env S => (fs env S).bind fun ds S1 => if ds.length ≤ sizeLine then .ok (.ref S1.length) (S1 ++ [.lst ds]) else .bad
theorem Good.ite {A : Type} {K : PySem.W.Frag} {mg : Str → Option Value} {t : List Addr} {E : Addr → Hp → Prop} {r : List Addr} {p : Prop} [Decidable p] {m : Out A} {R : A → Sto → List Addr → Hp → Prop}
    (g : Good K mg t E r H (if p then m else .bad) R) : p ∧ Good K mg t E r H m R := by
  by_cases h : p
  · rw [if_pos h] at g; exact ⟨h, g⟩
  · rw [if_neg h] at g; exact (show False from g).elim
theorem de_tup {x1} (h : PA X es (tA X W fs)) : PE X (.Tuple es x1 pos) (tE X W (dTup fs)) := by
  refine PE.imp (pe_tup h) fun σ H Q q => ?_
  obtain ⟨r, t, S, env, rel, g⟩ := q
  refine ⟨r, t, S, env, rel, g.bind.mono fun ds S1 r1 H1 ex so g1 vs dvs => ?_⟩
  obtain ⟨hl, g2⟩ := g1.ite
  refine ⟨by rw [dvs.length]; exact hl, fun p hp => ?_⟩
  exact g2 _ r1 (Ext.new hp) (so.new hp) _ (.tup upd_same (DenL.ext (Ext.new hp) _ _ dvs))
theorem notinNew {K : PySem.W.Frag} {mg : Str → Option Value} {r t : List Addr} {S : Sto} {p : Addr} (so : SOk K mg H r t S) (hp : H p = none) : p ∉ r ∧ p ∉ t := by
  refine ⟨fun z => ?_, fun z => (so.hid p z).1 hp⟩
  obtain ⟨o, e, _⟩ := so.memThere z
  rw [hp] at e; cases e
theorem de_lst (h : PA X es (tA X W fs)) : PE X (.List es pos) (tE X W (dLst fs)) := by
  refine PE.imp (pe_lst h) fun σ H Q q => ?_
  obtain ⟨r, t, S, env, rel, g⟩ := q
  refine ⟨r, t, S, env, rel, g.bind.mono fun ds S1 r1 H1 ex so g1 vs dvs => ?_⟩
  obtain ⟨hl, g2⟩ := g1.ite
  refine ⟨by rw [dvs.length]; exact hl, fun p hp => ?_⟩
  have nn := notinNew so hp
  exact g2 _ r1 (Ext.new hp) (so.new hp) _ (.lst upd_same nn.1 nn.2 (DenL.ext (Ext.new hp) _ _ dvs))
theorem growL {K : PySem.W.Frag} {mg : Str → Option Value} {r t : List Addr} {S : Sto} {p : Addr} {vs : List V} {ds : List D} (so : SOk K mg H r t S) (hp : H p = none) (h : DenL K H r t vs ds) :
    SOk K mg (upd H p (.lst vs)) (r ++ [p]) t (S ++ [.lst ds]) ∧ Den K (upd H p (.lst vs)) (r ++ [p]) t (.ref p) (.ref S.length) := by
  refine ⟨so.grow hp ⟨vs, upd_same, DenL.ext (Ext.grow hp) _ _ h⟩, .ref ?_⟩
  rw [← so.len, List.getElem?_append_right (Nat.le_refl _), Nat.sub_self]
  rfl
theorem de_cell (h : PA X es (tA X W fs)) : PE X (.List es pos) (tE X W (dCell fs)) := by
  refine PE.imp (pe_lst h) fun σ H Q q => ?_
  obtain ⟨r, t, S, env, rel, g⟩ := q
  refine ⟨r, t, S, env, rel, g.bind.mono fun ds S1 r1 H1 ex so g1 vs dvs => ?_⟩
  obtain ⟨hl, g2⟩ := g1.ite
  refine ⟨by rw [dvs.length]; exact hl, fun p hp => ?_⟩
  obtain ⟨so2, d2⟩ := growL so hp dvs
  exact g2 _ _ (Ext.grow hp) so2 _ d2

/-! ### calls -/
structure CallD (X : Cx) (f : Value) (o : Sto → List D → Option D) : Prop where
  ex : ∃ rr : List V → Hp → VK → Prop, CallR X f rr ∧ ∀ r t S H ds vs d (Q : VK), SOk X.K X.mg H r t S → DenL X.K H r t vs ds → o S ds = some d →
    (∀ w H', Ext r H r H' → SOk X.K X.mg H' r t S → Den X.K H' r t w d → Q w H') → rr vs H Q
def orC (o o' : Sto → List D → Option D) : Sto → List D → Option D := fun S x => match o S x with
  | some d => some d
  | none => o' S x
theorem CallD.or {f : Value} {o o' : Sto → List D → Option D} (h : CallD X f o) (h' : CallD X f o') : CallD X f (orC o o') := by
  obtain ⟨r1, h1, k1⟩ := h
  obtain ⟨r2, h2, k2⟩ := h'
  refine ⟨_, CallR.or h1 h2, fun r t S H ds vs d Q so dv e q => ?_⟩
  unfold orC at e
  split at e
  · rename_i d' e'
    cases e
    exact .inl (k1 r t S H ds vs _ Q so dv e' q)
  · exact .inr (k2 r t S H ds vs d Q so dv e q)
def dCall (o : Sto → List D → Option D) (fs : DA) : DE := fun env S => (fs env S).bind fun ds S1 => lift (o S1 ds) S1
theorem tE_call {o : Sto → List D → Option D} {rr : List V → Hp → VK → Prop} {Q : VK}
    (k : ∀ r t S H ds vs d (Q : VK), SOk X.K X.mg H r t S → DenL X.K H r t vs ds → o S ds = some d → (∀ w H', Ext r H r H' → SOk X.K X.mg H' r t S → Den X.K H' r t w d → Q w H') → rr vs H Q)
    (h : tE X W (dCall o fs) σ H Q) : tCB rr (tA X W fs) σ H Q := by
  obtain ⟨r, t, S, env, rel, g⟩ := h
  refine ⟨r, t, S, env, rel, g.bind.mono fun ds S1 r1 H1 ex so g1 vs dvs => ?_⟩
  obtain ⟨d, e, g2⟩ := g1.lift
  exact k r1 t S1 H1 ds vs d Q so dvs e fun w H2 e2 so2 dw => g2 H2 r1 e2 so2 w dw
theorem de_callB {id : String} {x : Str} {p : Pos} {o : Sto → List D → Option D} (hc : CallD X (.builtin id) o) (hg : Gl X x) (hm : X.mg x = none) (hv : bootBuiltins x = some (.builtin id)) (ha : PA X (e :: es) (tA X W fs)) (hn : x ≠ "__name__" := by decide) (hdb : (x == ("__debug__" : Str)) = false := by decide)
    (he : starEach (e :: es) X.env = (false, eval e X.env) :: starEach es X.env := by rfl) (hpl : (backTo pos (starEach es X.env)).any (·.1) = false := by rfl) : PE X (.Call (.Name x p) (e :: es) [] pos) (tE X W (dCall o fs)) := by
  obtain ⟨rr, h, k⟩ := hc
  exact PE.imp (pe_callB h hg hm hv ha hn hdb he hpl) fun σ H Q q => tE_call k q
theorem de_callTy {T : String} {x : Str} {p : Pos} {o : Sto → List D → Option D} (hc : CallD X (.type T) o) (hg : Gl X x) (hm : X.mg x = none) (hv : bootBuiltins x = some (.type T)) (ha : PA X (e :: es) (tA X W fs)) (hn : x ≠ "__name__" := by decide) (hdb : (x == ("__debug__" : Str)) = false := by decide)
    (he : starEach (e :: es) X.env = (false, eval e X.env) :: starEach es X.env := by rfl) (hpl : (backTo pos (starEach es X.env)).any (·.1) = false := by rfl) : PE X (.Call (.Name x p) (e :: es) [] pos) (tE X W (dCall o fs)) := by
  obtain ⟨rr, h, k⟩ := hc
  exact PE.imp (pe_callTy h hg hm hv ha hn hdb he hpl) fun σ H Q q => tE_call k q
/-- a def's promise by its function -/
def spD (K : PySem.W.Frag) (mg : Str → Option Value) (n : Nat) (f : Fn) : Sp := fun vs H Q E => vs.length = n ∧ ∃ r t S ds, SOk K mg H r t S ∧ DenL K H r t vs ds ∧ Good K mg t (fun C H' => E (.ref C) none H') r H (f ds S) fun d _ r' H' => ∀ v, Den K H' r' t v d → Q v H'
def dCallF (f : Fn) (fs : DA) : DE := fun env S => (fs env S).bind fun ds S1 => f ds S1
def Thru (CX : CXT) (X : Cx) (W : WX) : Prop := ∀ σ, PassesAt CX X σ (WE W σ)
theorem thru0 : Thru CX0 X W := fun _ _ _ _ _ _ _ h => h.elim
theorem thruX (tk : Takes X W) : Thru (L2.CX X.prog X.w) X W := fun σ => passAt tk σ
/-- the arguments' number is told by the written ones -/
theorem denLen {ds : List D} {vs : List V} {K : PySem.W.Frag} {r t : List Addr} (h : DenL K H r t vs ds) : vs.length = ds.length := h.length
structure ArgN (X : Cx) (W : WX) (es : List Expr) (fs : DA) (n : Nat) : Prop where
  pa : PA X es (tA X W fs)
  num : ∀ env S ds S', fs env S = .ok ds S' → ds.length = n
theorem an_nil : ArgN X W [] aNil 0 := ⟨da_nil, fun _ _ _ _ h => by cases h; rfl⟩
theorem an_cons {n : Nat} (ha : PE X e (tE X W f)) (hr : ArgN X W es fs n) (hs : starEach (e :: es) X.env = (false, eval e X.env) :: starEach es X.env := by rfl) : ArgN X W (e :: es) (aCons f fs) (n + 1) := by
  refine ⟨da_cons ha hr.pa hs, fun env S ds S' h => ?_⟩
  unfold aCons at h
  cases h1 : f env S with
  | ok d S1 =>
    rw [h1, Out.bind_ok] at h
    cases h2 : fs env S1 with
    | ok d2 S2 =>
      rw [h2, Out.bind_ok] at h
      cases h
      rw [List.length_cons, hr.num _ _ _ _ h2]
    | exc c S2 => rw [h2] at h; cases h
    | bad => rw [h2] at h; cases h
  | exc c S2 => rw [h1] at h; cases h
  | bad => rw [h1] at h; cases h
theorem de_callF {CX : CXT} {k n : Nat} {fa : Addr} {fd : FuncData} {ps : List Str} {fn : Fn} {x : Str} {p : Pos} (F : FnOk X.prog X.w X.K X.mg X.base CX k fa fd ps (spD X.K X.mg n fn)) (hr : Room k X.A) (hg : Gl X x) (hm : X.mg x = some (.ref fa)) (hk : PySem.W.keepIn X.K (.ref fa) = true) (hb : Binds X.K fd ps []) (hx : Thru CX X W)
    (ha : ArgN X W (e :: es) fs n) (hdb : (x == ("__debug__" : Str)) = false := by decide) (he : starEach (e :: es) X.env = (false, eval e X.env) :: starEach es X.env := by rfl) (hpl : (backTo pos (starEach es X.env)).any (·.1) = false := by rfl) :
    PE X (.Call (.Name x p) (e :: es) [] pos) (tE X W (dCallF fn fs)) := by
  refine PE.imp (pe_callS F hr hg hm hk hb hx ha.pa hdb he hpl) fun σ H Q q => ?_
  obtain ⟨r, t, S, env, rel, g⟩ := q
  have num := ha.num env S
  unfold dCallF at g
  cases h : fs env S with
  | ok ds S1 =>
    rw [h, Out.bind_ok] at g
    refine ⟨r, t, S, env, rel, ?_⟩
    rw [h]
    exact fun H1 r1 ex so vs dvs => ⟨dvs.length.trans (num _ _ h), r1, t, S1, ds, so, dvs, g.ext ex⟩
  | exc c S1 =>
    rw [h, Out.bind_exc] at g
    refine ⟨r, t, S, env, rel, ?_⟩
    rw [h]
    exact g
  | bad =>
    rw [h] at g
    exact (show False from g).elim
end
end DL
end L2

set_option Elab.async false
set_option linter.all false
set_option maxRecDepth 100000
namespace L2
namespace DL
open PySem PySem.Spec PyProof.Rows

/-! ### ints, texts -/
def iOp (c : Int → Int → Bool) (g : Int → Int → D) : Sto → D → D → Option D := fun _ x y => match x, y with
  | .int i, .int j => if c i j = true then some (g i j) else none
  | _, _ => none
theorem opd_int {X : Cx} {f : Value → Value → Sem Value} {C : Int → Int → Prop} {c : Int → Int → Bool} {g : Int → Int → V} {gd : Int → Int → D} (h : OpR X f (rI C g)) (hc : ∀ i j, c i j = true → C i j) (hg : ∀ i j K H r t, Den K H r t (g i j) (gd i j)) : OpD X f (iOp c gd) := by
  refine ⟨_, h, fun r t S H x y v u d Q so dx dy e q => ?_⟩
  unfold iOp at e
  split at e
  · rename_i i j
    cases dx
    cases dy
    by_cases hh : c i j = true
    · rw [if_pos hh] at e
      cases e
      exact ⟨i, j, rfl, rfl, hc i j hh, q _ _ (Ext.refl r H) so (hg _ _ _ _ _ _)⟩
    · rw [if_neg hh] at e
      cases e
  · cases e
theorem rI0_of {X : Cx} {f : Value → Value → Sem Value} {g : Int → Int → V} (h : OpR X f (rI0 g)) : OpR X f (rI (fun _ _ => True) g) := by
  intro pins s σ H x y v u Q I rx ry q
  obtain ⟨i, j, e1, e2, _, q⟩ := q
  exact h pins s σ H x y v u Q I rx ry ⟨i, j, e1, e2, q⟩
def yes2 : Int → Int → Bool := fun _ _ => true
theorem opd_int0 {X : Cx} {f : Value → Value → Sem Value} {g : Int → Int → V} {gd : Int → Int → D} (h : OpR X f (rI0 g)) (hg : ∀ i j K H r t, Den K H r t (g i j) (gd i j)) : OpD X f (iOp yes2 gd) := opd_int (rI0_of h) (fun _ _ _ => trivial) hg
section
variable {X : Cx}
def mulC (i j : Int) : Bool := decide (i.natAbs < 2 ^ 64) || decide (j.natAbs < 2 ^ 64)
def modC (_ j : Int) : Bool := decide (0 < j)
def divC (_ j : Int) : Bool := decide (0 < j) && decide (j < 2 ^ 80)
def powC (i j : Int) : Bool := decide (0 ≤ j) && decide (j ≤ 1000000) && decide (i.natAbs < 2 ^ 64)
def oAddI : Sto → D → D → Option D := iOp yes2 fun i j => .int (i + j)
def oSub : Sto → D → D → Option D := iOp yes2 fun i j => .int (i - j)
def oMulI : Sto → D → D → Option D := iOp mulC fun i j => .int (i * j)
def oMod : Sto → D → D → Option D := iOp modC fun i j => .int (i % j)
def oDiv : Sto → D → D → Option D := iOp divC fun i j => .int (i / j)
def oPow : Sto → D → D → Option D := iOp powC fun i j => .int (i ^ j.toNat)
theorem od_addI : OpD X (binaryOp .Add) oAddI := opd_int0 op_add fun _ _ _ _ _ _ => .int _
theorem od_sub : OpD X (binaryOp .Sub) oSub := opd_int0 op_sub fun _ _ _ _ _ _ => .int _
theorem od_mulI : OpD X (binaryOp .Mult) oMulI := opd_int op_mul (fun i j h => by
  unfold mulC at h
  rw [Bool.or_eq_true, decide_eq_true_eq, decide_eq_true_eq] at h
  rcases h with h | h
  · exact .inl ⟨by omega, by omega⟩
  · exact .inr ⟨by omega, by omega⟩) fun _ _ _ _ _ _ => .int _
theorem od_mod : OpD X (binaryOp .Mod) oMod := opd_int op_mod (fun i j h => of_decide_eq_true h) fun _ _ _ _ _ _ => .int _
theorem od_div : OpD X (binaryOp .FloorDiv) oDiv := opd_int op_fdivW (fun i j h => by
  unfold divC at h
  rw [Bool.and_eq_true, decide_eq_true_eq, decide_eq_true_eq] at h
  exact wide_div (b := 80) h.1 (by omega) (by decide) (by decide)) fun _ _ _ _ _ _ => .int _
theorem od_pow : OpD X (binaryOp .Pow) oPow := opd_int op_pow (fun i j h => by
  unfold powC at h
  rw [Bool.and_eq_true, Bool.and_eq_true, decide_eq_true_eq, decide_eq_true_eq, decide_eq_true_eq] at h
  exact ⟨h.1.1, h.1.2, h.2⟩) fun _ _ _ _ _ _ => .int _
def oLt : Sto → D → D → Option D := iOp yes2 fun i j => .bl (decide (i < j))
def oLe : Sto → D → D → Option D := iOp yes2 fun i j => .bl (decide (i ≤ j))
def oGt : Sto → D → D → Option D := iOp yes2 fun i j => .bl (decide (j < i))
def oGe : Sto → D → D → Option D := iOp yes2 fun i j => .bl (decide (j ≤ i))
theorem od_lt : OpD X (compareOp .Lt) oLt := opd_int0 op_lt fun _ _ _ _ _ _ => .bl _
theorem od_le : OpD X (compareOp .LtE) oLe := opd_int0 op_le fun _ _ _ _ _ _ => .bl _
theorem od_gt : OpD X (compareOp .Gt) oGt := opd_int0 op_gt fun _ _ _ _ _ _ => .bl _
theorem od_ge : OpD X (compareOp .GtE) oGe := opd_int0 op_ge fun _ _ _ _ _ _ => .bl _

/-! ### sequences -/
def lstOf (S : Sto) : D → Option (List D)
  | .lst ds => some ds
  | .ref n => match S[n]? with
    | some (.lst ds) => some ds
    | _ => none
  | _ => none
def listOf (S : Sto) : D → Option (List D)
  | .fz ds => some ds
  | d => lstOf S d
def tupOf : D → Option (List D)
  | .tup ds => some ds
  | _ => none
variable {K : PySem.W.Frag} {mg : Str → Option Value} {H : Hp} {r t : List Addr} {S : Sto} {d : D} {v : V} {ds : List D}
theorem lst_ok (so : SOk K mg H r t S) (dv : Den K H r t v d) (h : lstOf S d = some ds) : ∃ a xs, v = .ref a ∧ H a = some (.lst xs) ∧ DenL K H r t xs ds := by
  cases dv with
  | lst h1 n m z => cases h; exact ⟨_, _, rfl, h1, z⟩
  | @ref a n hn =>
    obtain ⟨c, hc, ok⟩ := so.cell hn
    have h' : (match S[n]? with | some (.lst ds) => some ds | _ => none) = some ds := h
    rw [hc] at h'
    cases c with
    | lst es =>
      have e := Option.some.inj h'
      subst e
      obtain ⟨xs, h1, h2⟩ := ok
      exact ⟨a, xs, rfl, h1, h2⟩
    | _ => cases h'
  | _ => cases h
theorem list_ok (so : SOk K mg H r t S) (dv : Den K H r t v d) (h : listOf S d = some ds) : ∃ a xs, v = .ref a ∧ SqL K H a xs ∧ DenL K H r t xs ds := by
  cases dv with
  | fz h1 z => cases h; exact ⟨_, _, rfl, h1.sq, z⟩
  | lst h1 n m z =>
    obtain ⟨a, xs, e, h2, h3⟩ := lst_ok so (.lst h1 n m z) h
    exact ⟨a, xs, e, .inl (.inl h2), h3⟩
  | ref hn =>
    obtain ⟨a, xs, e, h2, h3⟩ := lst_ok so (.ref hn) h
    exact ⟨a, xs, e, .inl (.inl h2), h3⟩
  | _ => cases h
theorem sqT_of {a : Addr} {xs : List V} (h : H a = some (.tup xs)) : SqT K H a xs := .inl (.inl h)
theorem tup_ok (dv : Den K H r t v d) (h : tupOf d = some ds) : ∃ a xs, v = .ref a ∧ H a = some (.tup xs) ∧ DenL K H r t xs ds := by
  cases dv with
  | tup h1 z => cases h; exact ⟨_, _, rfl, h1, z⟩
  | _ => cases h
/-- a new list, a new tuple -/
theorem newL {Q : VK} {p : Addr} {xs : List V} (so : SOk K mg H r t S) (hp : H p = none) (z : DenL K H r t xs ds) (q : ∀ w H', Ext r H r H' → SOk K mg H' r t S → Den K H' r t w (.lst ds) → Q w H') : Q (.ref p) (upd H p (.lst xs)) :=
  q _ _ (Ext.new hp) (so.new hp) (.lst upd_same (notinNew so hp).1 (notinNew so hp).2 (DenL.ext (Ext.new hp) _ _ z))
theorem newT {Q : VK} {p : Addr} {xs : List V} (so : SOk K mg H r t S) (hp : H p = none) (z : DenL K H r t xs ds) (q : ∀ w H', Ext r H r H' → SOk K mg H' r t S → Den K H' r t w (.tup ds) → Q w H') : Q (.ref p) (upd H p (.tup xs)) :=
  q _ _ (Ext.new hp) (so.new hp) (.tup upd_same (DenL.ext (Ext.new hp) _ _ z))
def oAddS : Sto → D → D → Option D := fun _ x y => match x, y with
  | .str a, .str b => if a.length + b.length ≤ sizeLine then some (.str (a ++ b)) else none
  | _, _ => none
theorem od_addS : OpD X (binaryOp .Add) oAddS := by
  refine ⟨_, op_add_str, fun r t S H x y v u d Q so dx dy e q => ?_⟩
  unfold oAddS at e
  split at e
  · cases dx
    cases dy
    split at e
    · cases e
      exact ⟨_, _, rfl, rfl, by assumption, q _ _ (Ext.refl _ _) so (.str _)⟩
    · cases e
  · cases e
def oAddT : Sto → D → D → Option D := fun _ x y => match tupOf x, tupOf y with
  | some a, some b => if a.length + b.length ≤ sizeLine then some (.tup (a ++ b)) else none
  | _, _ => none
theorem od_addT : OpD X (binaryOp .Add) oAddT := by
  refine ⟨_, op_catA, fun r t S H x y v u d Q so dx dy e q => ?_⟩
  unfold oAddT at e
  split at e
  · rename_i a b ea eb
    obtain ⟨p, xs, rfl, h1, z1⟩ := tup_ok dx ea
    obtain ⟨p2, ys, rfl, h2, z2⟩ := tup_ok dy eb
    split at e
    · rename_i hl
      cases e
      refine ⟨p, p2, xs, ys, rfl, rfl, sqT_of h1, sqT_of h2, by rw [z1.length, z2.length]; exact hl, fun e0 => ?_, fun _ e0 => ?_, fun _ _ n hn => newT so hn (z1.append z2) q⟩
      · subst e0
        cases z1
        exact q _ _ (Ext.refl _ _) so (.tup h2 z2)
      · subst e0
        cases z2
        refine q _ _ (Ext.refl _ _) so ?_
        rw [List.append_nil]
        exact .tup h1 z1
    · cases e
  · cases e
def oAddL : Sto → D → D → Option D := fun S x y => match lstOf S x, lstOf S y with
  | some a, some b => if a.length + b.length ≤ sizeLine then some (.lst (a ++ b)) else none
  | _, _ => none
theorem od_addL : OpD X (binaryOp .Add) oAddL := by
  refine ⟨_, op_cat, fun r t S H x y v u d Q so dx dy e q => ?_⟩
  unfold oAddL at e
  split at e
  · rename_i a b ea eb
    obtain ⟨p, xs, rfl, h1, z1⟩ := lst_ok so dx ea
    obtain ⟨p2, ys, rfl, h2, z2⟩ := lst_ok so dy eb
    split at e
    · rename_i hl
      cases e
      exact ⟨p, p2, xs, ys, rfl, rfl, h1, h2, by rw [z1.length, z2.length]; exact hl, fun n hn => newL so hn (z1.append z2) q⟩
    · cases e
  · cases e
def oAdd : Sto → D → D → Option D := orO oAddI (orO oAddL (orO oAddT oAddS))
theorem od_add : OpD X (binaryOp .Add) oAdd := od_addI.or (od_addL.or (od_addT.or od_addS))
def oRepL : Sto → D → D → Option D := fun S x y => match lstOf S x, y with
  | some a, .int k => if -(2 ^ 63) ≤ k ∧ k < 2 ^ 63 ∧ a.length * k.toNat ≤ sizeLine then some (.lst (List.replicate k.toNat a).flatten) else none
  | _, _ => none
theorem od_repL : OpD X (binaryOp .Mult) oRepL := by
  refine ⟨_, op_rep, fun r t S H x y v u d Q so dx dy e q => ?_⟩
  unfold oRepL at e
  split at e
  · rename_i a k ea
    obtain ⟨p, xs, rfl, h1, z1⟩ := lst_ok so dx ea
    cases dy
    split at e
    · rename_i hl
      cases e
      refine ⟨p, k, xs, rfl, rfl, h1, hl.1, hl.2.1, by rw [z1.length]; exact hl.2.2, fun n hn => newL so hn (z1.rep _) q⟩
    · cases e
  · cases e
def oRepT : Sto → D → D → Option D := fun _ x y => match tupOf x, y with
  | some a, .int k => if a ≠ [] ∧ 2 ≤ k ∧ k ≤ 1000 ∧ a.length ≤ 1000 then some (.tup (List.replicate k.toNat a).flatten) else none
  | _, _ => none
theorem od_repT : OpD X (binaryOp .Mult) oRepT := by
  refine ⟨_, op_repT, fun r t S H x y v u d Q so dx dy e q => ?_⟩
  unfold oRepT at e
  split at e
  · rename_i a k ea
    obtain ⟨p, xs, rfl, h1, z1⟩ := tup_ok dx ea
    cases dy
    split at e
    · rename_i hl
      cases e
      refine ⟨p, k, xs, rfl, rfl, sqT_of h1, fun e0 => ?_, hl.2.1, hl.2.2.1, by rw [z1.length]; exact hl.2.2.2, fun n hn => newT so hn (z1.rep _) q⟩
      subst e0
      cases z1
      exact hl.1 rfl
    · cases e
  · cases e
def oMul : Sto → D → D → Option D := orO oMulI (orO oRepL oRepT)
theorem od_mul : OpD X (binaryOp .Mult) oMul := od_mulI.or (od_repL.or od_repT)

/-! ### == -/
def oEqS (neg : Bool) : Sto → D → D → Option D := fun _ x y => match x, y with
  | .int i, .int j => some (.bl (neg ^^ decide (i = j)))
  | .str i, .str j => some (.bl (neg ^^ decide (i = j)))
  | .bl i, .bl j => some (.bl (neg ^^ decide (i = j)))
  | .non, .non => some (.bl (neg ^^ true))
  | .non, .int _ => some (.bl (neg ^^ false))
  | .int _, .non => some (.bl (neg ^^ false))
  | .str _, .int _ => some (.bl (neg ^^ false))
  | .int _, .str _ => some (.bl (neg ^^ false))
  | _, _ => none
mutual
def toPy : D → Option PyData
  | .non => some .none
  | .bl b => some (.bool b)
  | .int i => some (.int i)
  | .str x => some (.str x)
  | .tup ds => match toPyL ds with
    | some ps => some (.tuple ps)
    | none => none
  | .lst ds => match toPyL ds with
    | some ps => some (.list ps)
    | none => none
  | .fz ds => match toPyL ds with
    | some ps => some (.list ps)
    | none => none
  | .ref _ => none
  | .ty _ => none
def toPyL : List D → Option (List PyData)
  | [] => some []
  | d :: ds => match toPy d, toPyL ds with
    | some p, some ps => some (p :: ps)
    | _, _ => none
end
/-- a list's contents in the place of its cell -/
def topD (S : Sto) (d : D) : D := match lstOf S d with
  | some ds => .lst ds
  | none => d
mutual
theorem toPy_ok : ∀ (d : D) (v : V) (p : PyData), Den K H r t v d → toPy d = some p → Dp K H v p
  | .non, _, _, h, e => by cases h; cases e; exact .non
  | .bl b, _, _, h, e => by cases h; cases e; exact .bl b
  | .int i, _, _, h, e => by cases h; cases e; exact .int i
  | .str x, _, _, h, e => by cases h; cases e; exact .str x
  | .tup ds, _, _, h, e => by
    unfold toPy at e
    cases h with
    | tup h1 z =>
      split at e
      · rename_i ps eps
        cases e
        exact .tup (sqT_of h1) (toPyL_ok ds _ ps z eps)
      · cases e
  | .lst ds, _, _, h, e => by
    unfold toPy at e
    cases h with
    | lst h1 n m z =>
      split at e
      · rename_i ps eps
        cases e
        exact .lst (.inl (.inl h1)) (toPyL_ok ds _ ps z eps)
      · cases e
  | .fz ds, _, _, h, e => by
    unfold toPy at e
    cases h with
    | fz h1 z =>
      split at e
      · rename_i ps eps
        cases e
        exact .lst h1.sq (toPyL_ok ds _ ps z eps)
      · cases e
  | .ref _, _, _, _, e => by cases e
  | .ty _, _, _, _, e => by cases e
theorem toPyL_ok : ∀ (ds : List D) (vs : List V) (ps : List PyData), DenL K H r t vs ds → toPyL ds = some ps → DpAll K H vs ps
  | [], _, _, h, e => by cases h; cases e; exact .nil
  | d :: ds, _, _, h, e => by
    unfold toPyL at e
    cases h with
    | cons h1 h2 =>
      split at e
      · rename_i p ps e1 e2
        cases e
        exact .cons (toPy_ok d _ p h1 e1) (toPyL_ok ds _ ps h2 e2)
      · cases e
end
theorem topPy_ok {p : PyData} (so : SOk K mg H r t S) (dv : Den K H r t v d) (h : toPy (topD S d) = some p) : Dp K H v p := by
  unfold topD at h
  split at h
  · rename_i ds e
    obtain ⟨a, xs, rfl, h1, z⟩ := lst_ok so dv e
    unfold toPy at h
    split at h
    · rename_i ps eps
      cases h
      exact .lst (.inl (.inl h1)) (toPyL_ok ds _ ps z eps)
    · cases h
  · exact toPy_ok d v p dv h
def oEqD (neg : Bool) : Sto → D → D → Option D := fun S x y => match toPy (topD S x), toPy (topD S y) with
  | some p, some q => if (SeqAt.shaped p && SeqAt.shaped q) = true then some (.bl (neg ^^ PyData.eqv p q)) else none
  | _, _ => none
theorem eqS_ok {x y : D} {v u : V} {neg : Bool} (dx : Den K H r t v x) (dy : Den K H r t u y) (h : oEqS neg S x y = some d) : scal v u = true ∧ d = .bl (neg ^^ decide (v = u)) := by
  unfold oEqS at h
  split at h
  · cases dx; cases dy; cases h; exact ⟨rfl, by simp [V.int.injEq]⟩
  · cases dx; cases dy; cases h; exact ⟨rfl, by simp [V.str.injEq]⟩
  · cases dx; cases dy; cases h; exact ⟨rfl, by simp [V.bl.injEq]⟩
  · cases dx; cases dy; cases h; exact ⟨rfl, by simp⟩
  · cases dx; cases dy; cases h; exact ⟨rfl, by simp⟩
  · cases dx; cases dy; cases h; exact ⟨rfl, by simp⟩
  · cases dx; cases dy; cases h; exact ⟨rfl, by simp⟩
  · cases dx; cases dy; cases h; exact ⟨rfl, by simp⟩
  · cases h
theorem od_eqS : OpD X (compareOp .Eq) (oEqS false) := by
  refine ⟨_, op_eq, fun r t S H x y v u d Q so dx dy e q => ?_⟩
  obtain ⟨h1, h2⟩ := eqS_ok dx dy e
  subst h2
  exact ⟨h1, q _ _ (Ext.refl _ _) so (by rw [Bool.false_xor]; exact .bl _)⟩
theorem od_neS : OpD X (compareOp .NotEq) (oEqS true) := by
  refine ⟨_, op_ne, fun r t S H x y v u d Q so dx dy e q => ?_⟩
  obtain ⟨h1, h2⟩ := eqS_ok dx dy e
  subst h2
  exact ⟨h1, q _ _ (Ext.refl _ _) so (by rw [Bool.true_xor]; exact .bl _)⟩
theorem od_eqD (hu : X.A.units + 64 < cLine) : OpD X (compareOp .Eq) (oEqD false) := by
  refine ⟨_, op_eqD hu, fun r t S H x y v u d Q so dx dy e q => ?_⟩
  unfold oEqD at e
  split at e
  · rename_i p p2 e1 e2
    split at e
    · rename_i hs
      cases e
      rw [Bool.and_eq_true] at hs
      exact ⟨p, p2, topPy_ok so dx e1, topPy_ok so dy e2, hs.1, hs.2, q _ _ (Ext.refl _ _) so (by rw [Bool.false_xor]; exact .bl _)⟩
    · cases e
  · cases e
theorem od_neD (hu : X.A.units + 64 < cLine) : OpD X (compareOp .NotEq) (oEqD true) := by
  refine ⟨_, op_neD hu, fun r t S H x y v u d Q so dx dy e q => ?_⟩
  unfold oEqD at e
  split at e
  · rename_i p p2 e1 e2
    split at e
    · rename_i hs
      cases e
      rw [Bool.and_eq_true] at hs
      exact ⟨p, p2, topPy_ok so dx e1, topPy_ok so dy e2, hs.1, hs.2, q _ _ (Ext.refl _ _) so (by rw [Bool.true_xor]; exact .bl _)⟩
    · cases e
  · cases e
def oEq : Sto → D → D → Option D := orO (oEqS false) (oEqD false)
def oNe : Sto → D → D → Option D := orO (oEqS true) (oEqD true)
theorem od_eq (hu : X.A.units + 64 < cLine) : OpD X (compareOp .Eq) oEq := od_eqS.or (od_eqD hu)
theorem od_ne (hu : X.A.units + 64 < cLine) : OpD X (compareOp .NotEq) oNe := od_neS.or (od_neD hu)

/-! ### is -/
def isNonD : D → Bool
  | .non => true
  | _ => false
def oIsN (neg : Bool) : Sto → D → D → Option D := fun _ x y => match y with
  | .non => some (.bl (neg ^^ isNonD x))
  | _ => none
def oIsB (neg : Bool) : Sto → D → D → Option D := fun _ x y => match x, y with
  | .bl a, .bl b => some (.bl (neg ^^ decide (a = b)))
  | _, _ => none
theorem isNon_ok (dv : Den K H r t v d) : isNonD d = decide (v = .non) := by
  cases dv <;> simp [isNonD]
theorem od_isN : OpD X (compareOp .Is) (oIsN false) := by
  refine ⟨_, op_isN, fun r t S H x y v u d Q so dx dy e q => ?_⟩
  unfold oIsN at e
  split at e
  · cases dy
    cases e
    exact ⟨rfl, q _ _ (Ext.refl _ _) so (by rw [Bool.false_xor, isNon_ok dx]; exact .bl _)⟩
  · cases e
theorem od_notN : OpD X (compareOp .IsNot) (oIsN true) := by
  refine ⟨_, op_notN, fun r t S H x y v u d Q so dx dy e q => ?_⟩
  unfold oIsN at e
  split at e
  · cases dy
    cases e
    exact ⟨rfl, q _ _ (Ext.refl _ _) so (by rw [Bool.true_xor, isNon_ok dx]; exact .bl _)⟩
  · cases e
theorem od_isB : OpD X (compareOp .Is) (oIsB false) := by
  refine ⟨_, op_isBl, fun r t S H x y v u d Q so dx dy e q => ?_⟩
  unfold oIsB at e
  split at e
  · cases dx
    cases dy
    cases e
    exact ⟨_, _, rfl, rfl, q _ _ (Ext.refl _ _) so (by rw [Bool.false_xor]; exact .bl _)⟩
  · cases e
theorem od_notB : OpD X (compareOp .IsNot) (oIsB true) := by
  refine ⟨_, op_notBl, fun r t S H x y v u d Q so dx dy e q => ?_⟩
  unfold oIsB at e
  split at e
  · cases dx
    cases dy
    cases e
    exact ⟨_, _, rfl, rfl, q _ _ (Ext.refl _ _) so (by rw [Bool.true_xor]; exact .bl _)⟩
  · cases e
def oIs : Sto → D → D → Option D := orO (oIsB false) (oIsN false)
def oIsNot : Sto → D → D → Option D := orO (oIsB true) (oIsN true)
theorem od_is : OpD X (compareOp .Is) oIs := od_isB.or od_isN
theorem od_isNot : OpD X (compareOp .IsNot) oIsNot := od_notB.or od_notN

/-! ### in -/
def oInD (neg : Bool) : Sto → D → D → Option D := fun S x y => match toPy x, toPy (topD S y) with
  | some p, some (.list qs) => if (SeqAt.shaped p && SeqAt.shaped (.list qs)) = true then some (.bl (neg ^^ qs.any fun z => PyData.eqv z p)) else none
  | _, _ => none
theorem od_inD (hu : X.A.units + 65 < cLine) : OpD X (compareOp .In) (oInD false) := by
  refine ⟨_, op_inD hu, fun r t S H x y v u d Q so dx dy e q => ?_⟩
  unfold oInD at e
  split at e
  · rename_i p qs e1 e2
    split at e
    · rename_i hs
      cases e
      rw [Bool.and_eq_true] at hs
      exact ⟨p, qs, toPy_ok _ _ _ dx e1, topPy_ok so dy e2, hs.1, hs.2, q _ _ (Ext.refl _ _) so (by rw [Bool.false_xor]; exact .bl _)⟩
    · cases e
  · cases e
theorem od_notInD (hu : X.A.units + 65 < cLine) : OpD X (compareOp .NotIn) (oInD true) := by
  refine ⟨_, op_notInD hu, fun r t S H x y v u d Q so dx dy e q => ?_⟩
  unfold oInD at e
  split at e
  · rename_i p qs e1 e2
    split at e
    · rename_i hs
      cases e
      rw [Bool.and_eq_true] at hs
      exact ⟨p, qs, toPy_ok _ _ _ dx e1, topPy_ok so dy e2, hs.1, hs.2, q _ _ (Ext.refl _ _) so (by rw [Bool.true_xor]; exact .bl _)⟩
    · cases e
  · cases e

/-! ### - -/
structure UnD (X : Cx) (f : Value → Sem Value) (o : D → Option D) : Prop where
  ex : ∃ rr : V → Hp → VK → Prop, UnR X f rr ∧ ∀ r t S H x v d (Q : VK), SOk X.K X.mg H r t S → Den X.K H r t v x → o x = some d → (∀ w H', Ext r H r H' → SOk X.K X.mg H' r t S → Den X.K H' r t w d → Q w H') → rr v H Q
def oNeg : D → Option D
  | .int i => some (.int (-i))
  | _ => none
theorem ud_neg : UnD X (unaryOp .USub) oNeg := by
  refine ⟨_, un_neg, fun r t S H x v d Q so dx e q => ?_⟩
  cases dx with
  | int i => cases e; exact ⟨i, rfl, q _ _ (Ext.refl _ _) so (.int _)⟩
  | _ => cases e
variable {W : WX} {e a b : Expr} {es : List Expr} {f fa fb : DE} {pos : Pos} {σ : St}
def dUn (o : D → Option D) (fa : DE) : DE := fun env S => (fa env S).bind fun x S1 => lift (o x) S1
theorem de_un {op : UnaryOp} {o : D → Option D} (ho : UnD X (unaryOp op) o) (ha : PE X a (tE X W fa)) : PE X (.UnaryOp op a pos) (tE X W (dUn o fa)) := by
  obtain ⟨rr, h, k⟩ := ho
  refine PE.imp (pe_un h ha) fun σ H Q q => ?_
  exact tE_one q fun r t S env x v H' rel dx g => by
    obtain ⟨d, e, g⟩ := g.lift
    exact k r t S H' x v d Q rel.so dx e fun w H2 ex so dw => g H2 r ex so w dw

/-! ### x[i], x[i:j] -/
structure IxD (X : Cx) (o : Sto → D → D → Option D) : Prop where
  ex : ∃ rr : R2, IxR X rr ∧ ∀ r t S H x y v u d (Q : VK), SOk X.K X.mg H r t S → Den X.K H r t v x → Den X.K H r t u y → o S x y = some d →
    (∀ w H', Ext r H r H' → SOk X.K X.mg H' r t S → Den X.K H' r t w d → Q w H') → rr v u H Q
theorem IxD.or {o o' : Sto → D → D → Option D} (h : IxD X o) (h' : IxD X o') : IxD X (orO o o') := by
  obtain ⟨r1, h1, k1⟩ := h
  obtain ⟨r2, h2, k2⟩ := h'
  refine ⟨_, h1.or h2, fun r t S H x y v u d Q so dx dy e q => ?_⟩
  unfold orO at e
  split at e
  · rename_i d' e'
    cases e
    exact .inl (k1 r t S H x y v u _ Q so dx dy e' q)
  · exact .inr (k2 r t S H x y v u d Q so dx dy e q)
theorem de_ix {o : Sto → D → D → Option D} (ho : IxD X o) (ha : PE X a (tE X W fa)) (hb : PE X b (tE X W fb)) (hs : PlainIx b) : PE X (.Subscript a b pos) (tE X W (dBin o fa fb)) := by
  obtain ⟨rr, h, k⟩ := ho
  exact PE.imp (pe_ix h ha hb hs) fun σ H Q q => tE_op (f := binaryOp .Add) k q
theorem atI_den {xs : List V} {i : Int} (z : DenL K H r t xs ds) (h : atI ds i = some d) : ∃ v, atI xs i = some v ∧ Den K H r t v d := by
  unfold atI at h ⊢
  cases e : ixN ds.length i with
  | none => rw [e] at h; cases h
  | some j =>
    rw [e] at h
    rw [z.length, e]
    exact z.get h
def oIxL : Sto → D → D → Option D := fun S x y => match listOf S x, y with
  | some ds, .int i => atI ds i
  | _, _ => none
theorem xd_list : IxD X oIxL := by
  refine ⟨_, ix_list, fun r t S H x y v u d Q so dx dy e q => ?_⟩
  unfold oIxL at e
  split at e
  · rename_i ds i e1
    obtain ⟨a, xs, rfl, h1, z⟩ := list_ok so dx e1
    cases dy
    obtain ⟨w, h2, dw⟩ := atI_den z e
    exact ⟨a, xs, i, w, rfl, rfl, h1, h2, q _ _ (Ext.refl _ _) so dw⟩
  · cases e
def oIxT : Sto → D → D → Option D := fun _ x y => match tupOf x, y with
  | some ds, .int i => atI ds i
  | _, _ => none
theorem xd_tup : IxD X oIxT := by
  refine ⟨_, ix_tup, fun r t S H x y v u d Q so dx dy e q => ?_⟩
  unfold oIxT at e
  split at e
  · rename_i ds i e1
    obtain ⟨a, xs, rfl, h1, z⟩ := tup_ok dx e1
    cases dy
    obtain ⟨w, h2, dw⟩ := atI_den z e
    exact ⟨a, xs, i, w, rfl, rfl, sqT_of h1, h2, q _ _ (Ext.refl _ _) so dw⟩
  · cases e
def oIxS : Sto → D → D → Option D := fun _ x y => match x, y with
  | .str z, .int i => if z.length ≤ sizeLine then (atI z.cps.toList i).map fun c => .str ⟨#[c]⟩ else none
  | _, _ => none
theorem xd_str : IxD X oIxS := by
  refine ⟨_, ix_str, fun r t S H x y v u d Q so dx dy e q => ?_⟩
  unfold oIxS at e
  split at e
  · cases dx
    cases dy
    split at e
    · rename_i z i hl
      obtain ⟨c, h1, h2⟩ := Option.map_eq_some_iff.mp e
      subst h2
      exact ⟨z, i, c, rfl, rfl, hl, h1, q _ _ (Ext.refl _ _) so (.str _)⟩
    · cases e
  · cases e
def oIx : Sto → D → D → Option D := orO oIxL (orO oIxT oIxS)
theorem xd_ix : IxD X oIx := xd_list.or (xd_tup.or xd_str)
/-- a slice's ends -/
abbrev DO := Ev → Sto → Out (Option Int)
def oNo : DO := fun _ S => .ok none S
def asI : D → Option Int
  | .int i => some i
  | _ => none
def oSo (f : DE) : DO := fun env S => (f env S).bind fun d S1 => (lift (asI d) S1).bind fun i S2 => .ok (some i) S2
def tO (X : Cx) (W : WX) (f : DO) : TO := fun σ H Q => ∃ r t S env, Rel X.K X.mg H r t S env σ ∧ Good X.K X.mg t (EW W σ) r H (f env S) fun i _ _ H' => Q i H'
theorem do_no : PO X none (tO X W oNo) := ⟨fun pins s σ H Q I h => (po_none (X := X)).run pins s σ H Q I (by
  obtain ⟨r, t, S, env, rel, g⟩ := h
  exact g.here rel.so)⟩
theorem do_so (he : PE X e (tE X W f)) : PO X (some e) (tO X W (oSo f)) := ⟨fun pins s σ H Q I h => (po_some he).run pins s σ H Q I (by
  obtain ⟨r, t, S, env, rel, g⟩ := h
  refine ⟨r, t, S, env, rel, g.bind.mono fun x S1 r1 H1 ex so g1 v dv => ?_⟩
  obtain ⟨i, ei, g2⟩ := g1.bind.lift
  have g3 := (g2.here so).here so
  cases dv with
  | int j => cases ei; exact ⟨i, rfl, g3⟩
  | _ => cases ei)⟩
structure SlD (X : Cx) (o : Sto → D → Option Int → Option Int → Option D) : Prop where
  ex : ∃ rr : V → Option Int → Option Int → Hp → VK → Prop, SlR X rr ∧ ∀ r t S H x v l u d (Q : VK), SOk X.K X.mg H r t S → Den X.K H r t v x → o S x l u = some d →
    (∀ w H', Ext r H r H' → SOk X.K X.mg H' r t S → Den X.K H' r t w d → Q w H') → rr v l u H Q
def orS (o o' : Sto → D → Option Int → Option Int → Option D) : Sto → D → Option Int → Option Int → Option D := fun S x l u => match o S x l u with
  | some d => some d
  | none => o' S x l u
theorem SlD.or {o o' : Sto → D → Option Int → Option Int → Option D} (h : SlD X o) (h' : SlD X o') : SlD X (orS o o') := by
  obtain ⟨r1, h1, k1⟩ := h
  obtain ⟨r2, h2, k2⟩ := h'
  refine ⟨_, h1.or h2, fun r t S H x v l u d Q so dx e q => ?_⟩
  unfold orS at e
  split at e
  · rename_i d' e'
    cases e
    exact .inl (k1 r t S H x v l u _ Q so dx e' q)
  · exact .inr (k2 r t S H x v l u d Q so dx e q)
def cutD (xs : List D) (lo hi : Option Int) : List D := (xs.drop (HT.sIx xs.length 0 lo)).take (HT.sIx xs.length xs.length hi - HT.sIx xs.length 0 lo)
theorem cut_den {xs : List V} (z : DenL K H r t xs ds) (lo hi : Option Int) : DenL K H r t (cutV xs lo hi) (cutD ds lo hi) := by
  unfold cutV cutD
  rw [z.length]
  exact (z.drop _).take _
def oSlL : Sto → D → Option Int → Option Int → Option D := fun S x l u => match listOf S x with
  | some ds => some (.lst (cutD ds l u))
  | none => none
theorem sd_list : SlD X oSlL := by
  refine ⟨_, sl_list, fun r t S H x v l u d Q so dx e q => ?_⟩
  unfold oSlL at e
  split at e
  · rename_i ds e1
    cases e
    obtain ⟨a, xs, rfl, h1, z⟩ := list_ok so dx e1
    exact ⟨a, xs, rfl, h1, fun p hp => newL so hp (cut_den z l u) q⟩
  · cases e
def oSlT : Sto → D → Option Int → Option Int → Option D := fun _ x l u => match tupOf x with
  | some ds => some (.tup (cutD ds l u))
  | none => none
theorem cut_all {xs : List D} {lo hi : Option Int} (h : HT.sIx xs.length 0 lo = 0 ∧ HT.sIx xs.length xs.length hi = xs.length) : cutD xs lo hi = xs := by
  unfold cutD
  rw [h.1, h.2, List.drop_zero, Nat.sub_zero, List.take_length]
theorem sd_tup : SlD X oSlT := by
  refine ⟨_, sl_tupA, fun r t S H x v l u d Q so dx e q => ?_⟩
  unfold oSlT at e
  split at e
  · rename_i ds e1
    cases e
    obtain ⟨a, xs, rfl, h1, z⟩ := tup_ok dx e1
    refine ⟨a, xs, rfl, sqT_of h1, fun hw => ?_, fun _ p hp => newT so hp (cut_den z l u) q⟩
    rw [z.length] at hw
    refine q _ _ (Ext.refl _ _) so ?_
    rw [cut_all hw]
    exact .tup h1 z
  · cases e
def oSl : Sto → D → Option Int → Option Int → Option D := orS oSlL oSlT
theorem sd_sl : SlD X oSl := sd_list.or sd_tup
def dSl (o : Sto → D → Option Int → Option Int → Option D) (fe : DE) (fl fu : DO) : DE := fun env S => (fe env S).bind fun x S1 => (fl env S1).bind fun l S2 => (fu env S2).bind fun u S3 => lift (o S3 x l u) S3
theorem de_slice {o : Sto → D → Option Int → Option Int → Option D} {lo hi : Option Expr} {fl fu : DO} {p2 : Pos} (ho : SlD X o) (he : PE X e (tE X W f)) (hl : PO X lo (tO X W fl)) (hu : PO X hi (tO X W fu)) : PE X (.Subscript e (.Slice lo hi none p2) pos) (tE X W (dSl o f fl fu)) := by
  obtain ⟨rr, h, k⟩ := ho
  refine PE.imp (pe_slice h he hl hu) fun σ H Q q => ?_
  refine tE_one q fun r t S env x v H' rel dx g => ?_
  refine ⟨r, t, S, env, rel, g.bind.mono fun l S1 r1 H1 ex so g1 => ?_⟩
  have rel1 := rel.ext ex so
  have dx1 := Den.ext ex _ _ dx
  refine ⟨r1, t, S1, env, rel1, g1.bind.mono fun u S2 r2 H2 ex2 so2 g2 => ?_⟩
  obtain ⟨d, e, g3⟩ := g2.lift
  exact k r2 t S2 H2 x v l u d Q so2 (Den.ext ex2 _ _ dx1) e fun w H3 ex3 so3 dw => g3 H3 r2 ex3 so3 w dw

/-! ### built-in functions -/
def tyN (S : Sto) : D → Option String
  | .non => some "NoneType"
  | .bl _ => some "bool"
  | .int _ => some "int"
  | .str _ => some "str"
  | .tup _ => some "tuple"
  | .lst _ => some "list"
  | .fz _ => some "list"
  | .ref n => match S[n]? with
    | some (.lst _) => some "list"
    | some (.dK _) => some "dict"
    | some (.dT _) => some "dict"
    | _ => none
  | .ty _ => none
theorem ty_ok {T : String} (so : SOk K mg H r t S) (dv : Den K H r t v d) (h : tyN S d = some T) : TyX K H v (.type T) := by
  cases dv with
  | non => cases h; exact .base .non
  | bl b => cases h; exact .base (.bl b)
  | int b => cases h; exact .base (.int b)
  | str b => cases h; exact .base (.str b)
  | tup h1 z => cases h; exact .base (.tup h1)
  | lst h1 _ _ _ => cases h; exact .base (.lst h1)
  | fz h1 _ =>
    cases h
    rcases h1 with ⟨o, h1⟩ | ⟨o, its, n, hk, hc, _⟩
    · exact .base (.frz h1)
    · exact .kList hk hc
  | @ref a n hn =>
    obtain ⟨c, hc, ok⟩ := so.cell hn
    unfold tyN at h
    dsimp only at h
    rw [hc] at h
    cases c with
    | lst es => cases h; obtain ⟨xs, h1, _⟩ := ok; exact .base (.lst h1)
    | dK es => cases h; obtain ⟨xs, h1, _⟩ := ok; exact .base (.dK h1)
    | dT es => cases h; obtain ⟨xs, h1, _⟩ := ok; exact .base (.dT h1)
    | ins c fs => cases h
  | ty n => cases h
def oIsInst : Sto → List D → Option D := fun S ds => match ds with
  | [d, .ty T] => match tyN S d with
    | some a => (kitB a T).map .bl
    | none => none
  | _ => none
theorem cd_isinst : CallD X (.builtin "isinstance") oIsInst := by
  refine ⟨_, call_isi, fun r t S H ds vs d Q so dv e q => ?_⟩
  unfold oIsInst at e
  split at e
  · rename_i x T
    split at e
    · rename_i a ea
      obtain ⟨b, h1, h2⟩ := Option.map_eq_some_iff.mp e
      subst h2
      cases dv with
      | cons d1 d2 =>
        cases d2 with
        | cons d2 d3 =>
          cases d3
          cases d2
          exact ⟨_, _, _, _, b, rfl, .ty T, ty_ok so d1 ea, kit_ty h1, q _ _ (Ext.refl _ _) so (.bl b)⟩
    · cases e
  · cases e
def oLen : Sto → List D → Option D := fun S ds => match ds with
  | [.str x] => if x.length ≤ sizeLine then some (.int x.length) else none
  | [.tup xs] => some (.int xs.length)
  | [d] => (listOf S d).map fun xs => .int xs.length
  | _ => none
theorem cd_len : CallD X (.builtin "len") oLen := by
  refine ⟨_, call_len, fun r t S H ds vs d Q so dv e q => ?_⟩
  unfold oLen at e
  split at e
  · split at e
    · rename_i x hl
      cases e
      cases dv with
      | cons d1 d2 =>
        cases d2
        cases d1
        exact ⟨.str x, x.length, rfl, ⟨hl, rfl⟩, q _ _ (Ext.refl _ _) so (.int _)⟩
    · cases e
  · rename_i xs
    cases e
    cases dv with
    | cons d1 d2 =>
      cases d2
      cases d1 with
      | tup h1 z => exact ⟨_, _, rfl, .inr ⟨_, sqT_of h1, z.length.symm⟩, q _ _ (Ext.refl _ _) so (.int _)⟩
  · obtain ⟨xs, h1, h2⟩ := Option.map_eq_some_iff.mp e
    subst h2
    cases dv with
    | cons d1 d2 =>
      cases d2
      obtain ⟨a, ys, rfl, h3, z⟩ := list_ok so d1 h1
      exact ⟨_, _, rfl, .inl ⟨_, h3, z.length.symm⟩, q _ _ (Ext.refl _ _) so (.int _)⟩
  · cases e
def blsOf : List D → Option (List Bool)
  | [] => some []
  | .bl b :: r => (blsOf r).map (b :: ·)
  | _ :: _ => none
theorem bls_eq : ∀ {ds : List D} {bs : List Bool}, blsOf ds = some bs → ds = bs.map D.bl
  | [], _, h => by cases h; rfl
  | d :: r, bs, h => by
    cases d with
    | bl b =>
      obtain ⟨l, h1, h2⟩ := Option.map_eq_some_iff.mp (show (blsOf r).map (b :: ·) = some bs from h)
      subst h2
      rw [List.map_cons, bls_eq h1]
    | _ => cases h
def intsOf : List D → Option (List Int)
  | [] => some []
  | .int b :: r => (intsOf r).map (b :: ·)
  | _ :: _ => none
theorem ints_eq : ∀ {ds : List D} {bs : List Int}, intsOf ds = some bs → ds = bs.map D.int
  | [], _, h => by cases h; rfl
  | d :: r, bs, h => by
    cases d with
    | int b =>
      obtain ⟨l, h1, h2⟩ := Option.map_eq_some_iff.mp (show (intsOf r).map (b :: ·) = some bs from h)
      subst h2
      rw [List.map_cons, ints_eq h1]
    | _ => cases h
def oAll : Sto → List D → Option D := fun S ds => match ds with
  | [d] => ((listOf S d).bind blsOf).map fun bs => .bl (bs.all id)
  | _ => none
def oAny : Sto → List D → Option D := fun S ds => match ds with
  | [d] => ((listOf S d).bind blsOf).map fun bs => .bl (bs.any id)
  | _ => none
def oSumL : Sto → List D → Option D := fun S ds => match ds with
  | [d] => ((listOf S d).bind intsOf).map fun bs => .int bs.sum
  | _ => none
theorem cd_all (hc : X.calm = true) : CallD X (.builtin "all") oAll := by
  refine ⟨_, cr_all hc, fun r t S H ds vs d Q so dv e q => ?_⟩
  unfold oAll at e
  split at e
  · obtain ⟨bs, h1, h2⟩ := Option.map_eq_some_iff.mp e
    obtain ⟨es, h3, h4⟩ := Option.bind_eq_some_iff.mp h1
    subst h2
    cases dv with
    | cons d1 d2 =>
      cases d2
      obtain ⟨a, xs, rfl, h5, z⟩ := list_ok so d1 h3
      rw [bls_eq h4] at z
      rw [z.bls] at h5
      exact ⟨a, bs, rfl, h5, q _ _ (Ext.refl _ _) so (.bl _)⟩
  · cases e
theorem cd_any (hc : X.calm = true) : CallD X (.builtin "any") oAny := by
  refine ⟨_, cr_any hc, fun r t S H ds vs d Q so dv e q => ?_⟩
  unfold oAny at e
  split at e
  · obtain ⟨bs, h1, h2⟩ := Option.map_eq_some_iff.mp e
    obtain ⟨es, h3, h4⟩ := Option.bind_eq_some_iff.mp h1
    subst h2
    cases dv with
    | cons d1 d2 =>
      cases d2
      obtain ⟨a, xs, rfl, h5, z⟩ := list_ok so d1 h3
      rw [bls_eq h4] at z
      rw [z.bls] at h5
      exact ⟨a, bs, rfl, h5, q _ _ (Ext.refl _ _) so (.bl _)⟩
  · cases e
theorem cd_sumL (hc : X.calm = true) : CallD X (.builtin "sum") oSumL := by
  refine ⟨_, cr_sum hc, fun r t S H ds vs d Q so dv e q => ?_⟩
  unfold oSumL at e
  split at e
  · obtain ⟨bs, h1, h2⟩ := Option.map_eq_some_iff.mp e
    obtain ⟨es, h3, h4⟩ := Option.bind_eq_some_iff.mp h1
    subst h2
    cases dv with
    | cons d1 d2 =>
      cases d2
      obtain ⟨a, xs, rfl, h5, z⟩ := list_ok so d1 h3
      rw [ints_eq h4] at z
      rw [z.ints] at h5
      exact ⟨a, bs, rfl, h5, q _ _ (Ext.refl _ _) so (.int _)⟩
  · cases e
def oTuple : Sto → List D → Option D := fun S ds => match ds with
  | [.tup xs] => some (.tup xs)
  | [d] => (listOf S d).map .tup
  | _ => none
theorem cd_tuple : CallD X (.type "tuple") oTuple := by
  refine ⟨_, call_tuple_of, fun r t S H ds vs d Q so dv e q => ?_⟩
  unfold oTuple at e
  split at e
  · cases e
    cases dv with
    | cons d1 d2 =>
      cases d2
      cases d1 with
      | tup h1 z => exact ⟨_, _, rfl, .inr ⟨sqT_of h1, q _ _ (Ext.refl _ _) so (.tup h1 z)⟩⟩
  · obtain ⟨xs, h1, h2⟩ := Option.map_eq_some_iff.mp e
    subst h2
    cases dv with
    | cons d1 d2 =>
      cases d2
      obtain ⟨a, ys, rfl, h3, z⟩ := list_ok so d1 h1
      exact ⟨_, _, rfl, .inl ⟨h3, fun l hl => newT so hl z q⟩⟩
  · cases e
def oListC : Sto → List D → Option D := fun S ds => match ds with
  | [.tup xs] => some (.lst xs)
  | [d] => (listOf S d).map .lst
  | _ => none
theorem cd_list : CallD X (.type "list") oListC := by
  refine ⟨_, call_list_of, fun r t S H ds vs d Q so dv e q => ?_⟩
  unfold oListC at e
  split at e
  · cases e
    cases dv with
    | cons d1 d2 =>
      cases d2
      cases d1 with
      | tup h1 z => exact ⟨_, _, rfl, .inr (sqT_of h1), fun l hl => newL so hl z q⟩
  · obtain ⟨xs, h1, h2⟩ := Option.map_eq_some_iff.mp e
    subst h2
    cases dv with
    | cons d1 d2 =>
      cases d2
      obtain ⟨a, ys, rfl, h3, z⟩ := list_ok so d1 h1
      exact ⟨_, _, rfl, .inl h3, fun l hl => newL so hl z q⟩
  · cases e
def oIntC : Sto → List D → Option D := fun _ ds => match ds with
  | [.int i] => some (.int i)
  | [.bl k] => some (.int (if k then 1 else 0))
  | _ => none
theorem cd_int : CallD X (.type "int") oIntC := by
  refine ⟨_, call_int1, fun r t S H ds vs d Q so dv e q => ?_⟩
  unfold oIntC at e
  split at e
  · cases e
    cases dv with
    | cons d1 d2 => cases d2; cases d1; exact .inl ⟨_, rfl, q _ _ (Ext.refl _ _) so (.int _)⟩
  · cases e
    cases dv with
    | cons d1 d2 => cases d2; cases d1; exact .inr ⟨_, rfl, q _ _ (Ext.refl _ _) so (.int _)⟩
  · cases e
def oStrC : Sto → List D → Option D := fun _ ds => match ds with
  | [.int i] => if i.natAbs < 2 ^ 1919 then some (.str (toString i)) else none
  | _ => none
theorem cd_str : CallD X (.type "str") oStrC := by
  refine ⟨_, call_str_int, fun r t S H ds vs d Q so dv e q => ?_⟩
  unfold oStrC at e
  split at e
  · split at e
    · rename_i i hi
      cases e
      cases dv with
      | cons d1 d2 =>
        cases d2
        cases d1
        refine ⟨_, rfl, ?_, q _ _ (Ext.refl _ _) so (.str _)⟩
        exact Nat.lt_of_lt_of_le (PySem.Flt.log2_lt_of (by decide) hi) (by decide)
    · cases e
  · cases e
end
end DL
end L2

set_option Elab.async false
set_option linter.all false
set_option maxRecDepth 100000
namespace L2
namespace DL
open PySem PySem.Spec PyProof.Rows

/-! ### what is walked -/
abbrev DI := Ev → Sto → Out (List D)
/-- J walks the items ds as long as the tokens tok are what they are -/
def Walk (X : Cx) (J : It) (tok : List (V × D)) (ds : List D) : Prop := ∀ (i : Nat) (r t : List Addr) (H : Hp) (S : Sto), SOk X.K X.mg H r t S → (∀ p ∈ tok, Den X.K H r t p.1 p.2) →
  (i = ds.length → J.stop i H) ∧ ∀ d, ds[i]? = some d → J.go i H ∧ ∀ x H', J.yld i H x H' → Ext r H r H' ∧ SOk X.K X.mg H' r t S ∧ Den X.K H' r t x d
def tI (X : Cx) (W : WX) (g : DI) : TI := fun σ H R => ∃ r t S env, Rel X.K X.mg H r t S env σ ∧ Good X.K X.mg t (EW W σ) r H (g env S) fun ds _ r' H' => ∀ J tok, Walk X J tok ds → (∀ p ∈ tok, Den X.K H' r' t p.1 p.2) → R J H'
theorem PI.imp {X : Cx} {tg e : Expr} {w w' : TI} (h : PI X tg e w) (k : ∀ σ H R, w' σ H R → w σ H R) : PI X tg e w' := ⟨fun pins s σ H R I q => h.run pins s σ H R I (k σ H R q)⟩
theorem PI.or {X : Cx} {tg e : Expr} {w w' : TI} (h : PI X tg e w) (h' : PI X tg e w') : PI X tg e (fun σ H R => w σ H R ∨ w' σ H R) :=
  ⟨fun pins s σ H R I q => q.elim (h.run pins s σ H R I) (h'.run pins s σ H R I)⟩
section
variable {X : Cx} {W : WX} {tg e : Expr} {f : DE}
def itemsOf : D → Option (List D)
  | .tup ds => some ds
  | .lst ds => some ds
  | .fz ds => some ds
  | _ => none
def signs (x : Str) : List D := x.cps.toList.map fun c => D.str ⟨#[c]⟩
def seqItems : D → Option (List D)
  | .str x => some (signs x)
  | d => itemsOf d
def iSeq (f : DE) : DI := fun env S => (f env S).bind fun d S1 => lift (seqItems d) S1
theorem walk_str {x : Str} : Walk X (Its x) [] (signs x) := by
  intro i r t H S so _
  refine ⟨fun e => by rw [e]; unfold signs; rw [List.length_map, Array.length_toList]; exact Nat.le_refl _, fun d hd => ?_⟩
  unfold signs at hd
  rw [List.getElem?_map] at hd
  obtain ⟨c, h1, h2⟩ := Option.map_eq_some_iff.mp hd
  rw [Array.getElem?_toList] at h1
  subst h2
  refine ⟨(Array.getElem?_eq_some_iff.mp h1).1, fun y H' yl => ?_⟩
  obtain ⟨e, c', h3, ev⟩ := yl
  subst e ev
  rw [h1] at h3
  cases h3
  exact ⟨Ext.refl _ _, so, .str _⟩
theorem walk_tup {a : Addr} {ds : List D} : Walk X (Itt X.K a) [(.ref a, .tup ds)] ds := by
  intro i r t H S so tok
  have h := tok _ List.mem_cons_self
  cases h with
  | @tup a xs ds h0 z =>
    have h1 : SqT X.K H a xs := sqT_of h0
    refine ⟨fun e => ⟨xs, h1, by rw [z.length, e]; exact Nat.le_refl _⟩, fun d hd => ?_⟩
    obtain ⟨v, hv, dv⟩ := z.get hd
    refine ⟨⟨xs, v, h1, hv⟩, fun x H' y => ?_⟩
    obtain ⟨e, y⟩ := y
    subst e
    have hx := y xs h1
    rw [hv] at hx
    have ex := Option.some.inj hx
    subst ex
    exact ⟨Ext.refl _ _, so, dv⟩
theorem walk_lst {a : Addr} {d0 : D} {ds : List D} (hd0 : d0 = .lst ds ∨ d0 = .fz ds) : Walk X (Itl X.K a) [(.ref a, d0)] ds := by
  intro i r t H S so tok
  have h := tok _ List.mem_cons_self
  obtain ⟨xs, h1, z⟩ : ∃ xs, SqL X.K H a xs ∧ DenL X.K H r t xs ds := by
    rcases hd0 with e | e
    · subst e
      cases h with
      | lst h1 n m z => exact ⟨_, .inl (.inl h1), z⟩
    · subst e
      cases h with
      | fz h1 z => exact ⟨_, h1.sq, z⟩
  refine ⟨fun e => ⟨xs, h1, by rw [z.length, e]; exact Nat.le_refl _⟩, fun d hd => ?_⟩
  obtain ⟨v, hv, dv⟩ := z.get hd
  refine ⟨⟨xs, v, h1, hv⟩, fun x H' y => ?_⟩
  obtain ⟨e, y⟩ := y
  subst e
  have hx := y xs h1
  rw [hv] at hx
  have ex := Option.some.inj hx
  subst ex
  exact ⟨Ext.refl _ _, so, dv⟩
theorem di_seq (he : PE X e (tE X W f)) : PI X tg e (tI X W (iSeq f)) := by
  refine PI.imp (PI.or (pi_str he) (PI.or (pi_tup he) (pi_list he))) fun σ H R q => ?_
  obtain ⟨r, t, S, env, rel, g⟩ := q
  unfold iSeq at g
  cases h : f env S with
  | bad => rw [h] at g; exact (show False from g).elim
  | exc c S1 =>
    rw [h, Out.bind_exc] at g
    refine .inl ⟨r, t, S, env, rel, ?_⟩
    rw [h]
    exact g
  | ok d S1 =>
    rw [h, Out.bind_ok] at g
    obtain ⟨ds, e1, g1⟩ := g.lift
    cases d with
    | str x =>
      cases e1
      refine .inl ⟨r, t, S, env, rel, ?_⟩
      rw [h]
      intro H1 r1 ex so v dv
      cases dv
      exact ⟨x, rfl, g1 H1 r1 ex so _ _ walk_str (fun p hp => by cases hp)⟩
    | tup es =>
      cases e1
      refine .inr (.inl ⟨r, t, S, env, rel, ?_⟩)
      rw [h]
      intro H1 r1 ex so v dv
      cases dv with
      | tup h1 z => exact ⟨_, rfl, ⟨_, sqT_of h1⟩, g1 H1 r1 ex so _ _ walk_tup (by intro p hp; have ep := List.mem_singleton.mp hp; subst ep; exact .tup h1 z)⟩
    | lst es =>
      cases e1
      refine .inr (.inr ⟨r, t, S, env, rel, ?_⟩)
      rw [h]
      intro H1 r1 ex so v dv
      cases dv with
      | lst h1 n m z => exact ⟨_, rfl, ⟨_, .inl (.inl h1)⟩, g1 H1 r1 ex so _ _ (walk_lst (.inl rfl)) (by intro p hp; have ep := List.mem_singleton.mp hp; subst ep; exact .lst h1 n m z)⟩
    | fz es =>
      cases e1
      refine .inr (.inr ⟨r, t, S, env, rel, ?_⟩)
      rw [h]
      intro H1 r1 ex so v dv
      cases dv with
      | fz h1 z => exact ⟨_, rfl, ⟨_, h1.sq⟩, g1 H1 r1 ex so _ _ (walk_lst (.inr rfl)) (by intro p hp; have ep := List.mem_singleton.mp hp; subst ep; exact .fz h1 z)⟩
    | _ => cases e1
def rngL (lo : Int) (n : Nat) : List D := (List.range n).map fun k : Nat => D.int (lo + (k : Int))
theorem rng_get {lo : Int} {n i : Nat} {d : D} (h : (rngL lo n)[i]? = some d) : i < n ∧ d = .int (lo + (i : Int)) := by
  unfold rngL at h
  rw [List.getElem?_map] at h
  obtain ⟨j, h1, h2⟩ := Option.map_eq_some_iff.mp h
  obtain ⟨h3, h4⟩ := List.getElem?_eq_some_iff.mp h1
  rw [List.length_range] at h3
  rw [List.getElem_range] at h4
  subst h4
  exact ⟨h3, h2.symm⟩
theorem rng_len (lo : Int) (n : Nat) : (rngL lo n).length = n := by unfold rngL; rw [List.length_map, List.length_range]
theorem walk_rng {lo : Int} {n : Nat} : Walk X (Itr lo n) [] (rngL lo n) := by
  intro i r t H S so _
  refine ⟨fun e => by rw [e, rng_len]; exact Nat.le_refl _, fun d hd => ?_⟩
  obtain ⟨h1, h2⟩ := rng_get hd
  subst h2
  refine ⟨h1, fun x H' y => ?_⟩
  obtain ⟨e, y⟩ := y
  subst e y
  exact ⟨Ext.refl _ _, so, .int _⟩
def in62 (j : Int) : Bool := decide (-(2 ^ 62) ≤ j) && decide (j < 2 ^ 62)
def rng1 : List D → Option (List D)
  | [.int j] => if in62 j = true then some (rngL 0 j.toNat) else none
  | _ => none
def rng2 : List D → Option (List D)
  | [.int i, .int j] => if (in62 i && in62 j) = true then some (rngL i (j - i).toNat) else none
  | _ => none
theorem in62_ok {j : Int} (h : in62 j = true) : -(2 ^ 62) ≤ j ∧ j < 2 ^ 62 := by
  unfold in62 at h
  rw [Bool.and_eq_true, decide_eq_true_eq, decide_eq_true_eq] at h
  exact h
def iRange1 (fs : DA) : DI := fun env S => (fs env S).bind fun ds S1 => lift (rng1 ds) S1
def iRange2 (fs : DA) : DI := fun env S => (fs env S).bind fun ds S1 => lift (rng2 ds) S1
theorem di_range1 {a : Expr} {fs : DA} {p pos : Pos} (hg : Gl X "range") (hm : X.mg "range" = none) (ha : PA X [a] (tA X W fs)) (hs : starEach [a] X.env = [(false, eval a X.env)] := by rfl) : PI X tg (.Call (.Name "range" p) [a] [] pos) (tI X W (iRange1 fs)) := by
  refine PI.imp (pi_range1 hg hm ha hs) fun σ H R q => ?_
  obtain ⟨r, t, S, env, rel, g⟩ := q
  refine ⟨r, t, S, env, rel, g.bind.mono fun ds S1 r1 H1 ex so g1 vs dvs => ?_⟩
  obtain ⟨es, e1, g2⟩ := g1.lift
  unfold rng1 at e1
  split at e1
  · split at e1
    · rename_i j hj
      cases e1
      obtain ⟨h1, h2⟩ := in62_ok hj
      cases dvs with
      | cons d1 d2 =>
        cases d2
        cases d1
        exact ⟨j, rfl, h1, h2, g2.here so _ [] walk_rng (fun p hp => absurd hp (by simp))⟩
    · cases e1
  · cases e1
theorem di_range2 {a b : Expr} {fs : DA} {p pos : Pos} (hg : Gl X "range") (hm : X.mg "range" = none) (ha : PA X [a, b] (tA X W fs)) (hs : starEach [a, b] X.env = [(false, eval a X.env), (false, eval b X.env)] := by rfl) (hs2 : starEach [b] X.env = [(false, eval b X.env)] := by rfl) :
    PI X tg (.Call (.Name "range" p) [a, b] [] pos) (tI X W (iRange2 fs)) := by
  refine PI.imp (pi_range2 hg hm ha hs hs2) fun σ H R q => ?_
  obtain ⟨r, t, S, env, rel, g⟩ := q
  refine ⟨r, t, S, env, rel, g.bind.mono fun ds S1 r1 H1 ex so g1 vs dvs => ?_⟩
  obtain ⟨es, e1, g2⟩ := g1.lift
  unfold rng2 at e1
  split at e1
  · split at e1
    · rename_i i j hj
      cases e1
      rw [Bool.and_eq_true] at hj
      obtain ⟨h1, h2⟩ := in62_ok hj.1
      obtain ⟨h3, h4⟩ := in62_ok hj.2
      cases dvs with
      | cons d1 d2 =>
        cases d2 with
        | cons d2 d3 =>
          cases d3
          cases d1
          cases d2
          exact ⟨i, j, rfl, ⟨h1, h2, h3, h4⟩, g2.here so _ [] walk_rng (fun p hp => absurd hp (by simp))⟩
    · cases e1
  · cases e1
end

/-! ### targets -/
abbrev DG := Ev → D → Option Ev
/-- over every context with this written part -/
def Off (own : List Nat) (σ σ' : St) : Prop := σ'.length = σ.length ∧ ∀ j, j ∉ own → σ'[j]? = σ[j]?
def tG (K : PySem.W.Frag) (mg : Str → Option Value) (own : List Nat) (g : DG) : TG := fun v σ H Q => ∃ r t S env d, Rel K mg H r t S env σ ∧ Den K H r t v d ∧ ∃ env', g env d = some env' ∧ ∀ σ', Rel K mg H r t S env' σ' → Off own σ σ' → Q σ' H
theorem PG.imp {X : Cx} {e : Expr} {u u' : TG} (h : PG X e u) (k : ∀ v σ H Q, u' v σ H Q → u v σ H Q) : PG X e u' := ⟨fun pins s σ H v w Q I rv q => h.run pins s σ H v w Q I rv (k v σ H Q q)⟩
section
variable {X : Cx} {pos : Pos}
def gN (i : Nat) : DG := fun env d => some (env.set i (some d))
theorem dg_name (i : Nat) {x : Str} (hN : X.N.Nodup) (hi : X.N[i]? = some x := by rfl) (hx : Loc X.env.scope x := by first | exact .inl rfl | exact .inr rfl) (hf : X.fn x = true ∨ X.env.scope.names.lookup x = some .local := by first | exact .inl rfl | exact .inr rfl) : PG X (.Name x pos) (tG X.K X.mg [i] (gN i)) := by
  refine PG.imp (pg_name hN hi hx hf) fun v σ H Q q => ?_
  obtain ⟨r, t, S, env, d, rel, dv, env', e, q⟩ := q
  cases e
  exact q _ (rel.set i dv) ⟨List.length_set, fun j hj => List.getElem?_set_ne (fun e => hj (by rw [e]; exact List.mem_singleton.mpr rfl))⟩
/-- several targets -/
abbrev DGs := Ev → List D → Option Ev
def tGs (K : PySem.W.Frag) (mg : Str → Option Value) (own : List Nat) (g : DGs) : TGs := fun vs σ H Q => ∃ r t S env ds, Rel K mg H r t S env σ ∧ DenL K H r t vs ds ∧ ∃ env', g env ds = some env' ∧ ∀ σ', Rel K mg H r t S env' σ' → Off own σ σ' → Q σ' H
theorem Off.refl (σ : St) : Off [] σ σ := ⟨rfl, fun _ _ => rfl⟩
theorem Off.trans {a b : List Nat} {σ σ1 σ2 : St} (h : Off a σ σ1) (k : Off b σ1 σ2) : Off (a ++ b) σ σ2 :=
  ⟨k.1.trans h.1, fun j hj => (k.2 j fun z => hj (List.mem_append_right _ z)).trans (h.2 j fun z => hj (List.mem_append_left _ z))⟩
theorem PGs.imp {X : Cx} {e : List Expr} {u u' : TGs} (h : PGs X e u) (k : ∀ v σ H Q, u' v σ H Q → u v σ H Q) : PGs X e u' := ⟨fun pins s σ H v w Q I rv q => h.run pins s σ H v w Q I rv (k v σ H Q q)⟩
def gsNil : DGs := fun env ds => match ds with
  | [] => some env
  | _ => none
def gsCons (g : DG) (gs : DGs) : DGs := fun env ds => match ds with
  | d :: r => (g env d).bind fun env' => gs env' r
  | [] => none
theorem dgs_nil : PGs X [] (tGs X.K X.mg [] gsNil) := by
  refine PGs.imp pgs_nil fun v σ H Q q => ?_
  obtain ⟨r, t, S, env, ds, rel, dv, env', e, q⟩ := q
  unfold gsNil at e
  split at e
  · cases e
    cases dv
    exact ⟨rfl, q _ rel (Off.refl _)⟩
  · cases e
theorem dgs_cons {a : Expr} {es : List Expr} {g : DG} {gs : DGs} {o1 o2 : List Nat} (h1 : PG X a (tG X.K X.mg o1 g)) (h2 : PGs X es (tGs X.K X.mg o2 gs)) (hs : (assignEach (a :: es) X.env).map (·.2) = assign a X.env :: (assignEach es X.env).map (·.2) := by rfl) : PGs X (a :: es) (tGs X.K X.mg (o1 ++ o2) (gsCons g gs)) := by
  refine PGs.imp (pgs_cons h1 h2 hs) fun v σ H Q q => ?_
  obtain ⟨r, t, S, env, ds, rel, dv, env', e, q⟩ := q
  unfold gsCons at e
  split at e
  · rename_i d rd
    obtain ⟨env1, e1, e2⟩ := Option.bind_eq_some_iff.mp e
    cases dv with
    | cons d1 d2 => exact ⟨_, _, rfl, r, t, S, env, d, rel, d1, env1, e1, fun σ1 rel1 off1 => ⟨r, t, S, env1, rd, rel1, d2, env', e2, fun σ2 rel2 off2 => q σ2 rel2 (off1.trans off2)⟩⟩
  · cases e
def gTupD (n : Nat) (gs : DGs) : DG := fun env d => match d with
  | .tup ds => if ds.length = n then gs env ds else none
  | _ => none
theorem dg_tup {es : List Expr} {k : Nat} {gs : DGs} {n : Nat} {own : List Nat} (hc : X.calm = true) (h : PGs X es (tGs X.K X.mg own gs)) (hn : (assignEach es X.env).length = n := by rfl) (hst : (assignEach es X.env).findIdx? (·.1) = none := by rfl) : PG X (.Tuple es k pos) (tG X.K X.mg own (gTupD n gs)) := by
  refine PG.imp (pg_tup hc h hn hst) fun v σ H Q q => ?_
  obtain ⟨r, t, S, env, d, rel, dv, env', e, q⟩ := q
  unfold gTupD at e
  split at e
  · rename_i ds
    split at e
    · rename_i hl
      cases dv with
      | tup h1 z => exact ⟨_, _, rfl, sqT_of h1, z.length.trans hl, r, t, S, env, ds, rel, z, env', e, q⟩
    · cases e
  · cases e
end

/-! ### list comprehensions -/
abbrev W0 : WX := fun _ _ _ _ => False
def noexc {A : Type} : Out A → Out A
  | .exc _ _ => .bad
  | m => m
def bYes : DB := fun _ S => .ok true S
def wipeE (env : Ev) : List Nat → Ev
  | [] => env
  | v :: vs => (wipeE env vs).set v none
def compGo (g : DG) (env : Ev) (tt : DB) (te : DE) : List D → List D → Sto → Out (List D)
  | [], acc, S => .ok acc S
  | d :: ds, acc, S => match g env d with
    | none => .bad
    | some env' => (noexc (tt env' S)).bind fun k S1 => if k = true then (noexc (te env' S1)).bind fun y S2 => if acc.length < sizeLine then compGo g env tt te ds (acc ++ [y]) S2 else .bad
      else compGo g env tt te ds acc S1
def dComp (it : DI) (g : DG) (vs : List Nat) (tt : DB) (te : DE) : DE := fun env S => (it env S).bind fun ds S1 => (compGo g (wipeE env vs) tt te ds [] S1).bind fun acc S2 => .ok (.lst acc) S2
/-- the base of a loop: what a part comes to, whatever the state it is asked at -/
theorem Good.split {K : PySem.W.Frag} {mg : Str → Option Value} {t t' : List Addr} {E E' : Addr → Hp → Prop} {r r' : List Addr} {H H' : Hp} {A B : Type} {m : Out A} {k : A → Sto → Out B} {R : B → Sto → List Addr → Hp → Prop}
    (g : Good K mg t E r H ((noexc m).bind k) R) : Good K mg t' E' r' H' m fun a S _ _ => Good K mg t E r H (k a S) R := by
  cases m with
  | ok a S => exact fun _ _ _ _ => g
  | exc c S => exact (show False from g).elim
  | bad => exact (show False from g).elim
section
variable {K : PySem.W.Frag} {mg : Str → Option Value} {H : Hp} {r t : List Addr} {S : Sto} {env : Ev} {σ : St}
theorem Rel.wipes (R : Rel K mg H r t S env σ) : ∀ vs : List Nat, Rel K mg H r t S (wipeE env vs) (L2.wipe σ vs)
  | [] => R
  | v :: vs => (Rel.wipes R vs).wipe v
theorem SOk.hide {p : Addr} {o : HO} (so : SOk K mg H r t S) (hp : H p = none) : SOk K mg (upd H p o) r (p :: t) S := by
  have nn := notinNew so hp
  refine ⟨so.len, so.nd, fun n a c h1 h2 => ?_, fun a ha => ?_⟩
  · have ok := so.ok n a c h1 h2
    obtain ⟨u, e, _⟩ := ok.there
    have na : a ≠ p := ne_of_none e hp
    cases c with
    | lst ds => obtain ⟨xs, h3, h4⟩ := ok; exact ⟨xs, by rw [upd_ne na]; exact h3, DenL.hide hp _ _ h4⟩
    | dK ds => obtain ⟨xs, h3, h4⟩ := ok; exact ⟨xs, by rw [upd_ne na]; exact h3, ⟨h4.1, DenL.hide hp _ _ h4.2⟩⟩
    | dT ds => obtain ⟨xs, h3, h4⟩ := ok; exact ⟨xs, by rw [upd_ne na]; exact h3, ⟨h4.1, DenL.hide hp _ _ h4.2⟩⟩
    | ins c fs => obtain ⟨C, dx, ps, h3, h4, h5, h6⟩ := ok; exact ⟨C, dx, ps, by rw [upd_ne na]; exact h3, by rw [upd_ne (ne_of_none h4 hp)]; exact h4, h5, ⟨h6.1, DenL.hide hp _ _ h6.2⟩⟩
  · rcases List.mem_cons.mp ha with e | e
    · subst e
      exact ⟨by rw [upd_same]; exact (fun z => nomatch z), nn.1⟩
    · exact ⟨(Ext.new (r := r) hp).there a (so.hid a e).1, (so.hid a e).2⟩
theorem Rel.hide {p : Addr} {o : HO} (R : Rel K mg H r t S env σ) (hp : H p = none) : Rel K mg (upd H p o) r (p :: t) S env σ :=
  ⟨R.so.hide hp, R.len, fun i d h => let ⟨v, h1, h2⟩ := R.en i d h; ⟨v, h1, Den.hide hp d v h2⟩⟩
theorem SOk.over {p : Addr} {xs : List V} {o : HO} (so : SOk K mg H r t S) (hm : p ∈ t) (hp : H p = some (.lst xs)) : SOk K mg (upd H p o) r t S := by
  have hT : ∀ ys, H p ≠ some (.tup ys) := fun ys e => by rw [hp] at e; cases e
  have hF : ∀ ob u, H p ≠ some (.frz ob u) := fun ob u e => by rw [hp] at e; cases e
  have hO : ∀ a, H p ≠ some (.own a) := fun a e => by rw [hp] at e; cases e
  refine ⟨so.len, so.nd, fun n a c h1 h2 => ?_, fun a ha => ⟨?_, (so.hid a ha).2⟩⟩
  · have ok := so.ok n a c h1 h2
    have na : a ≠ p := fun e => by subst e; exact (so.hid _ hm).2 (List.mem_of_getElem? h1)
    cases c with
    | lst ds => obtain ⟨xs, h3, h4⟩ := ok; exact ⟨xs, by rw [upd_ne na]; exact h3, DenL.over hm hT hF _ _ h4⟩
    | dK ds => obtain ⟨xs, h3, h4⟩ := ok; exact ⟨xs, by rw [upd_ne na]; exact h3, ⟨h4.1, DenL.over hm hT hF _ _ h4.2⟩⟩
    | dT ds => obtain ⟨xs, h3, h4⟩ := ok; exact ⟨xs, by rw [upd_ne na]; exact h3, ⟨h4.1, DenL.over hm hT hF _ _ h4.2⟩⟩
    | ins c fs => obtain ⟨C, dx, ps, h3, h4, h5, h6⟩ := ok; exact ⟨C, dx, ps, by rw [upd_ne na]; exact h3, by rw [upd_ne (fun e => by subst e; exact hO _ h4)]; exact h4, h5, ⟨h6.1, DenL.over hm hT hF _ _ h6.2⟩⟩
  · by_cases e : a = p
    · subst e; rw [upd_same]; exact fun z => nomatch z
    · rw [upd_ne e]; exact (so.hid a ha).1
theorem Rel.over {p : Addr} {xs : List V} {o : HO} (R : Rel K mg H r t S env σ) (hm : p ∈ t) (hp : H p = some (.lst xs)) : Rel K mg (upd H p o) r t S env σ := by
  have hT : ∀ ys, H p ≠ some (.tup ys) := fun ys e => by rw [hp] at e; cases e
  have hF : ∀ ob u, H p ≠ some (.frz ob u) := fun ob u e => by rw [hp] at e; cases e
  exact ⟨R.so.over hm hp, R.len, fun i d h => let ⟨v, h1, h2⟩ := R.en i d h; ⟨v, h1, Den.over hm hT hF d v h2⟩⟩
theorem SOk.less {u : List Addr} (so : SOk K mg H r t S) (hs : ∀ a ∈ u, a ∈ t) : SOk K mg H r u S := by
  refine ⟨so.len, so.nd, fun n a c h1 h2 => ?_, fun a ha => so.hid a (hs a ha)⟩
  have ok := so.ok n a c h1 h2
  cases c with
  | lst ds => obtain ⟨xs, h3, h4⟩ := ok; exact ⟨xs, h3, DenL.less hs _ _ h4⟩
  | dK ds => obtain ⟨xs, h3, h4⟩ := ok; exact ⟨xs, h3, ⟨h4.1, DenL.less hs _ _ h4.2⟩⟩
  | dT ds => obtain ⟨xs, h3, h4⟩ := ok; exact ⟨xs, h3, ⟨h4.1, DenL.less hs _ _ h4.2⟩⟩
  | ins c fs => obtain ⟨C, dx, ps, h3, h4, h5, h6⟩ := ok; exact ⟨C, dx, ps, h3, h4, h5, ⟨h6.1, DenL.less hs _ _ h6.2⟩⟩
/-- a hidden new list is written: from the loop's start on that is nothing -/
theorem Ext.overNew {r1 : List Addr} {H1 : Hp} {p : Addr} {o : HO} (e : Ext r1 H1 r H) (hp : H1 p = none) : Ext r1 H1 r (upd H p o) := by
  refine ⟨e.pre, fun b u h n => ?_, fun b u h => ?_, fun b u w h => ?_, fun b u h => ?_, fun b h => ?_⟩
  · rw [upd_ne (ne_of_none h hp)]; exact e.keep b u h n
  · rw [upd_ne (ne_of_none h hp)]; exact e.tups b u h
  · rw [upd_ne (ne_of_none h hp)]; exact e.frzs b u w h
  · rw [upd_ne (ne_of_none h hp)]; exact e.owns b u h
  · by_cases z : b = p
    · subst z; rw [upd_same]; exact fun z => nomatch z
    · rw [upd_ne z]; exact e.there b h
end
theorem wipe_off {vs : List Nat} : ∀ {us : List Nat} {c : St} {j : Nat}, j ∉ us → (wipe c us)[j]? = c[j]?
  | [], _, _, _ => rfl
  | y :: us, c, j, hu => by
    show ((wipe c us).set y none)[j]? = c[j]?
    rw [List.getElem?_set_ne (fun e => hu (by rw [e]; exact List.mem_cons_self)), wipe_off (vs := vs) fun e => hu (List.mem_cons_of_mem _ e)]
theorem wipe_on : ∀ {us : List Nat} {c : St} {j : Nat}, j ∈ us → j < c.length → (wipe c us)[j]? = some none
  | [], _, _, hu, _ => by cases hu
  | y :: us, c, j, hu, hc => by
    show ((wipe c us).set y none)[j]? = some none
    by_cases hy : y = j
    · subst hy
      rw [List.getElem?_set_self (by rw [wipe_length]; exact hc)]
    · rw [List.getElem?_set_ne hy]
      exact wipe_on ((List.mem_cons.mp hu).resolve_left fun e => hy e.symm) hc
theorem wipe_eq {a b : St} {vs : List Nat} (hl : a.length = b.length) (h : ∀ j, j ∉ vs → a[j]? = b[j]?) : wipe a vs = wipe b vs := by
  refine List.ext_getElem? fun j => ?_
  by_cases hv : j ∈ vs
  · by_cases hc : j < a.length
    · rw [wipe_on hv hc, wipe_on hv (by rw [← hl]; exact hc)]
    · rw [List.getElem?_eq_none (by rw [wipe_length]; omega), List.getElem?_eq_none (by rw [wipe_length]; omega)]
  · rw [wipe_off (vs := []) hv, wipe_off (vs := []) hv]
    exact h j hv
theorem wipe_back {σ σ2 : St} {vs own : List Nat} (off : Off own (wipe σ vs) σ2) (ho : ∀ i ∈ own, i ∈ vs) : wipe σ2 vs = wipe σ vs := by
  refine wipe_eq (by rw [off.1, wipe_length]) fun j hj => ?_
  rw [off.2 j fun z => hj (ho j z), wipe_off (vs := []) hj]
end DL
end L2

set_option Elab.async false
set_option linter.all false
set_option maxRecDepth 100000
namespace L2
namespace DL
open PySem PySem.Spec PyProof.Rows

theorem Out.bind_assoc {A B C : Type} (m : Out A) (f : A → Sto → Out B) (g : B → Sto → Out C) : (m.bind f).bind g = m.bind fun a S => (f a S).bind g := by
  cases m <;> rfl
section
variable {X : Cx} {W : WX} {tg iter elt : Expr} {it : DI} {g : DG} {tt : DB} {te : DE} {scope : Scope} {own : List (Str × Nat)} {go : List Nat} {ifs : List Expr} {pos : Pos} {σ : St} {H : Hp} {Q : VK}
/-- between two turns of a comprehension whose new list stands at p -/
def CInv (X : Cx) (W : WX) (g : DG) (vs : List Nat) (tt : DB) (te : DE) (σ : St) (Q : VK) (env : Ev) (t r1 : List Addr) (H1 : Hp) (p : Addr) (tok : List (V × D)) (ds : List D) (H2 : Hp) : Prop :=
  ∃ r2 S2 acc accV, H2 p = some (.lst accV) ∧ DenL X.K H2 r2 (p :: t) accV acc ∧ Rel X.K X.mg H2 r2 (p :: t) S2 (wipeE env vs) (wipe σ vs) ∧ Ext r1 H1 r2 H2 ∧
      (∀ q ∈ tok, Den X.K H2 r2 (p :: t) q.1 q.2) ∧ Good X.K X.mg t (EW W σ) r1 H1 ((compGo g (wipeE env vs) tt te ds acc S2).bind fun acc S2 => .ok (.lst acc) S2) fun d _ r' H' => ∀ v, Den X.K H' r' t v d → Q v H'
theorem tLc_of {vs : List Nat} (hgo : ∀ i ∈ go, i ∈ vs) (q : tE X W (dComp it g vs tt te) σ H Q) : tLc (tI X W it) (tG X.K X.mg go g) (tB' X W0 tt) (tE X W0 te) vs σ H Q := by
  obtain ⟨r, t, S, env, rel, g0⟩ := q
  refine ⟨r, t, S, env, rel, g0.bind.mono fun ds S1 r1 H1 ex so g1 J tok walk htok p hp => ?_⟩
  have rel1 := rel.ext ex so
  have nn := notinNew so hp
  refine ⟨fun i m H2 => m = ds.length - i ∧ i ≤ ds.length ∧ CInv X W g vs tt te σ Q env t r1 H1 p tok (ds.drop i) H2,
    ⟨ds.length, rfl, Nat.zero_le _, r1, S1, [], [], upd_same, .nil, (rel1.hide hp).wipes vs, Ext.new hp, fun q hq => Den.hide hp _ _ (htok q hq), g1⟩, ?_⟩
  rintro i m H2 ⟨rfl, hi, r2, S2, acc, accV, hD2, dacc, rel2, ex2, htok2, g2⟩
  have wk := walk i r2 (p :: t) H2 S2 rel2.so htok2
  have nD : p ∉ r2 := (rel2.so.hid p List.mem_cons_self).2
  by_cases hlt : i < ds.length
  · obtain ⟨hgo1, hyl⟩ := wk.2 ds[i] (List.getElem?_eq_getElem hlt)
    rw [List.drop_eq_getElem_cons hlt] at g2
    unfold compGo at g2
    cases hE : g (wipeE env vs) ds[i] with
    | none => rw [hE] at g2; exact (show False from g2).elim
    | some env' =>
      rw [hE] at g2
      dsimp only at g2
      rw [Out.bind_assoc] at g2
      refine .inr ⟨hgo1, fun H3 => CInv X W g vs tt te σ Q env t r1 H1 p tok (ds.drop (i + 1)) H3, fun H' h => ⟨ds.length - (i + 1), by omega, rfl, hlt, h⟩, fun x H' y => ?_⟩
      obtain ⟨exy, soy, dx⟩ := hyl x H' y
      have rely := rel2.ext exy soy
      refine ⟨r2, p :: t, S2, wipeE env vs, ds[i], rely, dx, env', hE, fun σ2 relS off => ⟨wipe_back off hgo, ?_⟩⟩
      refine ⟨r2, p :: t, S2, env', relS, (Good.split g2).mono fun b S3 r3 H3 ex3 so3 g3 => ?_⟩
      have exA := exy.trans ex3
      have hD3 : H3 p = some (.lst accV) := exA.keep p _ hD2 nD
      have rel3 := rely.ext ex3 so3
      have nD3 : p ∉ r3 := (so3.hid p List.mem_cons_self).2
      cases b with
      | false => exact iteF ⟨r3, S3, acc, accV, hD3, DenL.ext exA _ _ dacc, rel3, ex2.trans exA, fun q hq => Den.ext exA _ _ (htok2 q hq), g3⟩
      | true =>
        refine iteT ?_
        have g3' := g3
        rw [if_pos rfl, Out.bind_assoc] at g3'
        refine ⟨r3, p :: t, S3, env', relS.ext ex3 so3, (Good.split g3').mono fun y S4 r4 H4 ex4 so4 g4 yv dyv => ?_⟩
        have hD4 : H4 p = some (.lst accV) := ex4.keep p _ hD3 nD3
        have hz : acc.length < sizeLine ∧ Good X.K X.mg t (EW W σ) r1 H1 ((compGo g (wipeE env vs) tt te (ds.drop (i + 1)) (acc ++ [y]) S4).bind fun acc S2 => .ok (.lst acc) S2) (fun d _ r' H' => ∀ v, Den X.K H' r' t v d → Q v H') := by
          by_cases hz : acc.length < sizeLine
          · rw [if_pos hz] at g4; exact ⟨hz, g4⟩
          · rw [if_neg hz] at g4; exact (show False from g4).elim
        have exB := exA.trans ex4
        have hT : ∀ ys, H4 p ≠ some (.tup ys) := fun ys e => by rw [hD4] at e; cases e
        have hF : ∀ ob u, H4 p ≠ some (.frz ob u) := fun ob u e => by rw [hD4] at e; cases e
        have mD : p ∈ p :: t := List.mem_cons_self
        exact ⟨accV, hD4, by rw [dacc.length]; exact hz.1, r4, S4, acc ++ [y], accV ++ [yv], upd_same, DenL.over mD hT hF _ _ ((DenL.ext exB _ _ dacc).append (.cons dyv .nil)), (rel3.ext ex4 so4).over mD hD4, (ex2.trans exB).overNew hp, fun q hq => Den.over mD hT hF _ _ (Den.ext exB _ _ (htok2 q hq)), hz.2⟩
  · have e : i = ds.length := by omega
    subst e
    rw [List.drop_length] at g2
    refine .inl ⟨wk.1 rfl, ?_⟩
    have sub : ∀ a ∈ t, a ∈ p :: t := fun a ha => List.mem_cons_of_mem _ ha
    exact g2 H2 r2 ex2 (rel2.so.less sub) _ (.lst hD2 nD nn.2 (DenL.less sub _ _ dacc))
theorem de_comp (hc : X.calm = true) (hN : X.N.Nodup) (hi : PI X tg iter (tI X W it)) (ok : BlkOk X.N X.env.scope scope own) (hgo : ∀ i ∈ go, i ∈ own.map (·.2))
    (hg : ∀ (s : Shared) (H : Hp) (C : Addr) (cl : List (Str × Addr)) (fp : List Addr), PG (X.blk s H scope (compEnvC scope cl C X.env) fp) tg (tG X.K X.mg go g)) (ht : ∀ (s : Shared) (H : Hp) (C : Addr) (cl : List (Str × Addr)) (fp : List Addr), PTs (X.blk s H scope (compEnvC scope cl C X.env) fp) ifs (tB' X W0 tt))
    (he : ∀ (s : Shared) (H : Hp) (C : Addr) (cl : List (Str × Addr)) (fp : List Addr), PE (X.blk s H scope (compEnvC scope cl C X.env) fp) elt (tE X W0 te)) (hs : ∀ x, foldedSetIterable iter X.env x = pure x := by intro _; rfl) :
    PE X (.ListComp elt [⟨tg, iter, ifs, 0⟩] scope pos) (tE X W (dComp it g (own.map (·.2)) tt te)) :=
  PE.imp (pe_lc hc hN hi ok hg ht he hs) fun _ _ _ q => tLc_of hgo q
theorem dts_nil : PTs X [] (tB' X W bYes) := ⟨fun pins s σ H Q I h => (pts_nil (X := X)).run pins s σ H Q I (by
  obtain ⟨r, t, S, env, rel, g⟩ := h
  exact g.here rel.so)⟩
end

/-! ### statements -/
inductive Fl where
  | nx | rt (d : D) | bk | ct
abbrev DS := Ev → Sto → Out (Fl × Ev)
abbrev WC (E : XK) : WX := fun c d _ H => E c d H
abbrev EC (E : XK) : Addr → Hp → Prop := fun C H => E (.ref C) none H
def fin (Dn : Ends) (K : PySem.W.Frag) (H : Hp) (r t : List Addr) (fl : Fl) (σ : St) : Prop := match fl with
  | .nx => Dn.nx σ H
  | .rt d => ∀ v, Den K H r t v d → Dn.rt v H
  | .bk => Dn.bk σ H
  | .ct => Dn.ct σ H
abbrev RS (X : Cx) (Dn : Ends) (t : List Addr) : (Fl × Ev) → Sto → List Addr → Hp → Prop := fun p S' r' H' => ∀ σ', Rel X.K X.mg H' r' t S' p.2 σ' → fin Dn X.K H' r' t p.1 σ'
def tS (X : Cx) (E : XK) (f : DS) : TS := fun Dn σ H => ∃ r t S env, Rel X.K X.mg H r t S env σ ∧ Good X.K X.mg t (EC E) r H (f env S) (RS X Dn t)
section
variable {X : Cx} {E : XK} {e : Expr} {st : Stmt} {rest : List Stmt} {f g : DS} {fe : DE} {pos : Pos}
theorem PS.imp {e : Stmt} {u u' : TS} (h : PS X e u) (k : ∀ D σ H, u' D σ H → u D σ H) : PS X e u' := ⟨fun pins s σ H D I q => h.run pins s σ H D I (k D σ H q)⟩
theorem PSs.imp {e : List Stmt} {u u' : TS} (h : PSs X e u) (k : ∀ D σ H, u' D σ H → u D σ H) : PSs X e u' := ⟨fun pins s σ H D I q => h.run pins s σ H D I (k D σ H q)⟩
def sNil : DS := fun env S => .ok (.nx, env) S
def sSeq (f g : DS) : DS := fun env S => (f env S).bind fun p S1 => match p.1 with
  | .nx => g p.2 S1
  | fl => .ok (fl, p.2) S1
theorem ds_nil : PSs X [] (tS X E sNil) := PSs.imp pss_nil fun D σ H q => by
  obtain ⟨r, t, S, env, rel, g⟩ := q
  exact g.here rel.so σ rel
theorem ds_one (h : PS X st (tS X E f)) : PSs X [st] (tS X E f) := pss_one h
theorem ds_cons (h1 : PS X st (tS X E f)) (h2 : PSs X rest (tS X E g)) : PSs X (st :: rest) (tS X E (sSeq f g)) := by
  refine PSs.imp (pss_cons h1 h2) fun D σ H q => ?_
  obtain ⟨r, t, S, env, rel, g0⟩ := q
  refine ⟨r, t, S, env, rel, g0.bind.mono fun p S1 r1 H1 ex so g1 σ1 rel1 => ?_⟩
  obtain ⟨fl, env1⟩ := p
  cases fl with
  | nx => exact ⟨r1, t, S1, env1, rel1, g1⟩
  | rt d => exact Good.here g1 so σ1 rel1
  | bk => exact Good.here g1 so σ1 rel1
  | ct => exact Good.here g1 so σ1 rel1
def sExpr (f : DE) : DS := fun env S => (f env S).bind fun _ S1 => .ok (.nx, env) S1
theorem ds_expr (he : PE X e (tE X (WC E) fe)) (hs : swapsWith e none pos.line X.env = pure false := by rfl) : PS X (.Expr e pos) (tS X E (sExpr fe)) := by
  refine PS.imp (ps_expr he hs) fun D σ H q => ?_
  obtain ⟨r, t, S, env, rel, g0⟩ := q
  exact ⟨r, t, S, env, rel, g0.bind.mono fun d S1 r1 H1 ex so g1 v dv => Good.here g1 so σ (rel.ext ex so)⟩
def sRet (f : DE) : DS := fun env S => (f env S).bind fun d S1 => .ok (.rt d, env) S1
theorem ds_ret (he : PE X e (tE X (WC E) fe)) : PS X (.Return (some e) pos) (tS X E (sRet fe)) := by
  refine PS.imp (ps_ret he) fun D σ H q => ?_
  obtain ⟨r, t, S, env, rel, g0⟩ := q
  exact ⟨r, t, S, env, rel, g0.bind.mono fun d S1 r1 H1 ex so g1 v dv => Good.here g1 so σ (rel.ext ex so) v dv⟩
def sFl (fl : Fl) : DS := fun env S => .ok (fl, env) S
theorem ds_retN : PS X (.Return none pos) (tS X E (sFl (.rt .non))) := PS.imp ps_retN fun D σ H q => by
  obtain ⟨r, t, S, env, rel, g⟩ := q
  exact g.here rel.so σ rel _ .non
theorem ds_break : PS X (.Break pos) (tS X E (sFl .bk)) := PS.imp ps_break fun D σ H q => by
  obtain ⟨r, t, S, env, rel, g⟩ := q
  exact g.here rel.so σ rel
theorem ds_continue : PS X (.Continue pos) (tS X E (sFl .ct)) := PS.imp ps_continue fun D σ H q => by
  obtain ⟨r, t, S, env, rel, g⟩ := q
  exact g.here rel.so σ rel
theorem ds_pass : PS X (.Pass pos) (tS X E (sFl .nx)) := PS.imp ps_pass fun D σ H q => by
  obtain ⟨r, t, S, env, rel, g⟩ := q
  exact g.here rel.so σ rel
def sIf (c : DB) (f g : DS) : DS := fun env S => (c env S).bind fun k S1 => if k = true then f env S1 else g env S1
theorem ds_if {c : Expr} {a b : List Stmt} {tc : DB} (hc : PT X c (tB' X (WC E) tc)) (ha : PSs X a (tS X E f)) (hb : PSs X b (tS X E g)) : PS X (.If c a b pos) (tS X E (sIf tc f g)) := by
  refine PS.imp (ps_if hc ha hb) fun D σ H q => ?_
  obtain ⟨r, t, S, env, rel, g0⟩ := q
  refine ⟨r, t, S, env, rel, g0.bind.mono fun k S1 r1 H1 ex so g1 => ?_⟩
  cases k with
  | true => exact iteT ⟨r1, t, S1, env, rel.ext ex so, g1⟩
  | false => exact iteF ⟨r1, t, S1, env, rel.ext ex so, g1⟩
def sSet (i : Nat) (f : DE) : DS := fun env S => (f env S).bind fun d S1 => .ok (.nx, env.set i (some d)) S1
theorem ds_set (i : Nat) {x : Str} {pos' : Pos} (hN : X.N.Nodup) (he : PE X e (tE X (WC E) fe)) (hi : X.N[i]? = some x := by rfl) (hx : Loc X.env.scope x := by first | exact .inl rfl | exact .inr rfl) (hs : swapsWith e (some (.Name x pos')) pos.line X.env = pure false := by rfl) (hf : X.fn x = true ∨ X.env.scope.names.lookup x = some .local := by first | exact .inl rfl | exact .inr rfl) :
    PS X (.Assign [.Name x pos'] e pos) (tS X E (sSet i fe)) := by
  refine PS.imp (ps_set hN hi hx he hs hf) fun D σ H q => ?_
  obtain ⟨r, t, S, env, rel, g0⟩ := q
  exact ⟨r, t, S, env, rel, g0.bind.mono fun d S1 r1 H1 ex so g1 v dv => Good.here g1 so _ ((rel.ext ex so).set i dv)⟩
def sAsg (f : DE) (g : DG) : DS := fun env S => (f env S).bind fun d S1 => (lift (g env d) S1).bind fun env' S2 => .ok (.nx, env') S2
theorem ds_asg {tg : Expr} {gg : DG} {own : List Nat} (he : PE X e (tE X (WC E) fe)) (hg : PG X tg (tG X.K X.mg own gg)) (hs : swapsWithSole [tg] e pos.line X.env = pure false := by rfl) (hw : swappedStores [tg] e X.env = pure none := by rfl)
    (h1 : (assignEach [tg] X.env).map (·.2) = [assign tg X.env] := by rfl) : PS X (.Assign [tg] e pos) (tS X E (sAsg fe gg)) := by
  refine PS.imp (ps_asg he hg hs hw h1) fun D σ H q => ?_
  obtain ⟨r, t, S, env, rel, g0⟩ := q
  refine ⟨r, t, S, env, rel, g0.bind.mono fun d S1 r1 H1 ex so g1 v dv => ?_⟩
  obtain ⟨env', e1, g2⟩ := g1.bind.lift
  exact ⟨r1, t, S1, env, d, rel.ext ex so, dv, env', e1, fun σ' rel' _ => Good.here (g2.here so) so σ' rel'⟩
theorem ds_setLc (i : Nat) {y : Str} {py : Pos} {elt tg iter : Expr} {ifs : List Expr} {scope : Scope} {own : List (Str × Nat)} {go : List Nat} {pos spos : Pos} {it : DI} {gg : DG} {tt : DB} {te : DE} (hc : X.calm = true) (hN : X.N.Nodup)
    (hsw : swapsWith (.ListComp elt [⟨tg, iter, ifs, 0⟩] scope pos) (some (.Name y py)) spos.line X.env = pure true) (hi : PI X tg iter (tI X (WC E) it)) (ok : BlkOk X.N X.env.scope scope own) (hgo : ∀ i ∈ go, i ∈ own.map (·.2))
    (hg : ∀ (s : Shared) (H : Hp) (C : Addr) (cl : List (Str × Addr)) (fp : List Addr), PG (X.blk s H scope (compEnvC scope cl C X.env) fp) tg (tG X.K X.mg go gg)) (ht : ∀ (s : Shared) (H : Hp) (C : Addr) (cl : List (Str × Addr)) (fp : List Addr), PTs (X.blk s H scope (compEnvC scope cl C X.env) fp) ifs (tB' X W0 tt))
    (he : ∀ (s : Shared) (H : Hp) (C : Addr) (cl : List (Str × Addr)) (fp : List Addr), PE (X.blk s H scope (compEnvC scope cl C X.env) fp) elt (tE X W0 te)) (hy : X.N[i]? = some y := by rfl) (hyl : X.env.scope.names.lookup y = some .local := by rfl) (hs : ∀ x, foldedSetIterable iter X.env x = pure x := by intro _; rfl) :
    PS X (.Assign [.Name y py] (.ListComp elt [⟨tg, iter, ifs, 0⟩] scope pos) spos) (tS X E (sSet i (dComp it gg (own.map (·.2)) tt te))) := by
  refine PS.imp (ps_setLc hc hN hy hyl hsw hi ok hg ht he hs) fun D σ H q => ?_
  obtain ⟨r, t, S, env, rel, g0⟩ := q
  exact tLc_of (W := WC E) hgo ⟨r, t, S, env, rel, g0.bind.mono fun d S1 r1 H1 ex so g1 v dv => Good.here g1 so _ ((rel.ext ex so).set i dv)⟩
/-- for -/
def forGo (g : DG) (b : DS) : List D → Ev → Sto → Out (Fl × Ev)
  | [], env, S => .ok (.nx, env) S
  | d :: ds, env, S => match g env d with
    | none => .bad
    | some env' => (b env' S).bind fun p S1 => match p.1 with
      | .nx => forGo g b ds p.2 S1
      | .ct => forGo g b ds p.2 S1
      | .bk => .ok (.nx, p.2) S1
      | .rt v => .ok (.rt v, p.2) S1
def sFor (it : DI) (g : DG) (b : DS) : DS := fun env S => (it env S).bind fun ds S1 => forGo g b ds env S1
theorem ds_for {tg iter : Expr} {body : List Stmt} {it : DI} {gg : DG} {own : List Nat} (hp : PassesOwn (model X.prog X.w) X.A X.env X.xe) (hc : X.calm = true) (hi : PI X tg iter (tI X (WC E) it)) (hg : PG X tg (tG X.K X.mg own gg)) (hb : PSs X body (tS X E f))
    (hs : ∀ x, foldedSetIterable iter X.env x = pure x := by intro _; rfl) : PS X (.For tg iter body [] pos) (tS X E (sFor it gg f)) := by
  refine PS.imp (ps_for hp hc hi hg hb hs) fun D σ H q => ?_
  obtain ⟨r, t, S, env, rel, g0⟩ := q
  refine ⟨r, t, S, env, rel, g0.bind.mono fun ds S1 r1 H1 ex so g1 J tok walk htok => ?_⟩
  refine ⟨fun i m σ2 H2 => m = ds.length - i ∧ i ≤ ds.length ∧ ∃ r2 S2 env2, Rel X.K X.mg H2 r2 t S2 env2 σ2 ∧ (∀ p ∈ tok, Den X.K H2 r2 t p.1 p.2) ∧ Good X.K X.mg t (EC E) r2 H2 (forGo gg f (ds.drop i) env2 S2) (RS X D t), ⟨ds.length, by simp, Nat.zero_le _, r1, S1, env, rel.ext ex so, htok, g1⟩, ?_⟩
  rintro i m σ2 H2 ⟨rfl, hi, r2, S2, env2, rel2, htok2, g2⟩
  have wk := walk i r2 t H2 S2 rel2.so htok2
  by_cases hlt : i < ds.length
  · obtain ⟨hgo1, hyl⟩ := wk.2 ds[i] (List.getElem?_eq_getElem hlt)
    rw [List.drop_eq_getElem_cons hlt] at g2
    unfold forGo at g2
    cases hE : gg env2 ds[i] with
    | none => rw [hE] at g2; exact (show False from g2).elim
    | some env' =>
      rw [hE] at g2
      dsimp only at g2
      refine .inr ⟨hgo1, fun σ3 H3 => ∃ m', m' < ds.length - i ∧ m' = ds.length - (i + 1) ∧ i + 1 ≤ ds.length ∧ ∃ r2 S2 env2, Rel X.K X.mg H3 r2 t S2 env2 σ3 ∧ (∀ p ∈ tok, Den X.K H3 r2 t p.1 p.2) ∧ Good X.K X.mg t (EC E) r2 H3 (forGo gg f (ds.drop (i + 1)) env2 S2) (RS X D t), fun σ' H' h => h, fun x H' y => ?_⟩
      obtain ⟨exy, soy, dx⟩ := hyl x H' y
      refine ⟨r2, t, S2, env2, ds[i], rel2.ext exy soy, dx, env', hE, fun σ3 rel3 _ => ?_⟩
      refine ⟨r2, t, S2, env', rel3, (g2.ext exy).bind.mono fun p S4 r4 H4 ex4 so4 g4 σ4 rel4 => ?_⟩
      have tk : ∀ p ∈ tok, Den X.K H4 r4 t p.1 p.2 := fun p hp => Den.ext (exy.trans ex4) _ _ (htok2 p hp)
      obtain ⟨fl, env4⟩ := p
      cases fl with
      | nx => exact ⟨ds.length - (i + 1), by omega, rfl, hlt, r4, S4, env4, rel4, tk, g4⟩
      | ct => exact ⟨ds.length - (i + 1), by omega, rfl, hlt, r4, S4, env4, rel4, tk, g4⟩
      | bk => exact Good.here g4 so4 σ4 rel4
      | rt d => exact Good.here g4 so4 σ4 rel4
  · have e : i = ds.length := by omega
    subst e
    rw [List.drop_length] at g2
    exact .inl ⟨wk.1 rfl, Good.here g2 rel2.so σ2 rel2⟩
/-- while, with a number of turns that is never reached -/
def whGo (c : DB) (b : DS) : Nat → Ev → Sto → Out (Fl × Ev)
  | 0, _, _ => .bad
  | n + 1, env, S => (c env S).bind fun k S1 => if k = true then (b env S1).bind fun p S2 => match p.1 with
      | .nx => whGo c b n p.2 S2
      | .ct => whGo c b n p.2 S2
      | .bk => .ok (.nx, p.2) S2
      | .rt v => .ok (.rt v, p.2) S2
    else .ok (.nx, env) S1
def turns : Nat := 1000000
def sWhile (c : DB) (b : DS) : DS := fun env S => whGo c b turns env S
theorem ds_while {c : Expr} {body : List Stmt} {tc : DB} (hp : PassesOwn (model X.prog X.w) X.A X.env X.xe) (hc : PT X c (tB' X (WC E) tc)) (hb : PSs X body (tS X E f)) : PS X (.While c body [] pos) (tS X E (sWhile tc f)) := by
  refine PS.imp (ps_while hp hc hb) fun D σ H q => ?_
  obtain ⟨r, t, S, env, rel, g0⟩ := q
  refine ⟨fun m σ2 H2 => ∃ r2 S2 env2, Rel X.K X.mg H2 r2 t S2 env2 σ2 ∧ Good X.K X.mg t (EC E) r2 H2 (whGo tc f m env2 S2) (RS X D t), ⟨turns, r, S, env, rel, g0⟩, ?_⟩
  rintro m σ2 H2 ⟨r2, S2, env2, rel2, g2⟩
  cases m with
  | zero => exact (show False from g2).elim
  | succ n =>
    unfold whGo at g2
    refine ⟨r2, t, S2, env2, rel2, g2.bind.mono fun k S3 r3 H3 ex3 so3 g3 => ?_⟩
    cases k with
    | false => exact iteF (Good.here (show Good X.K X.mg t (EC E) r3 H3 (.ok (.nx, env2) S3) (RS X D t) from g3) so3 σ2 (rel2.ext ex3 so3))
    | true =>
      rw [if_pos rfl] at g3 ⊢
      refine ⟨fun σ4 H4 => ∃ m', m' < n + 1 ∧ ∃ r2 S2 env2, Rel X.K X.mg H4 r2 t S2 env2 σ4 ∧ Good X.K X.mg t (EC E) r2 H4 (whGo tc f m' env2 S2) (RS X D t), fun σ' H' h => h, ?_⟩
      refine ⟨r3, t, S3, env2, rel2.ext ex3 so3, g3.bind.mono fun p S4 r4 H4 ex4 so4 g4 σ4 rel4 => ?_⟩
      obtain ⟨fl, env4⟩ := p
      cases fl with
      | nx => exact ⟨n, by omega, r4, S4, env4, rel4, g4⟩
      | ct => exact ⟨n, by omega, r4, S4, env4, rel4, g4⟩
      | bk => exact Good.here g4 so4 σ4 rel4
      | rt d => exact Good.here g4 so4 σ4 rel4

/-! ### stores -/
def asR : D → Option Nat
  | .ref n => some n
  | _ => none
/-- xs.append(e) -/
def dAppend (fo fa : DE) : DE := fun env S => (fo env S).bind fun o S1 => if (lstOf S1 o).isSome = true then (fa env S1).bind fun y S2 => match o, lstOf S2 o with
  | .ref n, some ds => if ds.length < sizeLine then .ok .non (S2.set n (.lst (ds ++ [y]))) else .bad
  | _, _ => .bad
  else .bad
/-- xs[i] = e, a list -/
def sPutL (fo fi fe : DE) : DS := fun env S => (fe env S).bind fun y S1 => (fo env S1).bind fun o S2 => (fi env S2).bind fun i S3 => match o, lstOf S3 o, i with
  | .ref n, some ds, .int k => match ixN ds.length k with
    | some j => .ok (.nx, env) (S3.set n (.lst (ds.set j y)))
    | none => .bad
  | _, _, _ => .bad
end
section
variable {X : Cx} {W : WX} {E : XK} {o e i : Expr} {fo fa fi fe : DE} {apos pos pos' : Pos} {K : PySem.W.Frag} {mg : Str → Option Value} {H : Hp} {r t : List Addr} {S : Sto}
theorem ref_lst {n : Nat} {v : V} {ds : List D} (so : SOk K mg H r t S) (dv : Den K H r t v (.ref n)) (h : lstOf S (.ref n) = some ds) : ∃ a xs, v = .ref a ∧ r[n]? = some a ∧ H a = some (.lst xs) ∧ DenL K H r t xs ds := by
  obtain ⟨a, xs, e1, h1, z⟩ := lst_ok so dv h
  cases dv with
  | ref hn => cases e1; exact ⟨a, xs, rfl, hn, h1, z⟩
/-- a list cell is written -/
theorem put_lst {n : Nat} {a : Addr} {xs ys : List V} {es : List D} (so : SOk K mg H r t S) (hn : r[n]? = some a) (h : H a = some (.lst xs)) (z : DenL K H r t ys es) : Ext r H r (upd H a (.lst ys)) ∧ SOk K mg (upd H a (.lst ys)) r t (S.set n (.lst es)) := by
  have ex : Ext r H r (upd H a (.lst ys)) := Ext.write h trivial (List.mem_of_getElem? hn)
  exact ⟨ex, so.write hn ⟨ys, upd_same, DenL.ext ex _ _ z⟩⟩
theorem de_append (hb : PE X e (tBM X.K "list" rAppend (tE X W fo) (tCons (tE X W fa) tNil))) : PE X e (tE X W (dAppend fo fa)) := by
  refine PE.imp hb fun σ H Q q => ?_
  obtain ⟨r, t, S, env, rel, g⟩ := q
  refine ⟨r, t, S, env, rel, g.bind.mono fun od S1 r1 H1 ex so g1 v dv => ?_⟩
  have rel1 := rel.ext ex so
  obtain ⟨hty, g2⟩ := g1.ite
  obtain ⟨ds, hds⟩ := Option.isSome_iff_exists.mp hty
  obtain ⟨a, xs, ev, ha1, _⟩ := lst_ok so dv hds
  refine ⟨by rw [ev]; exact Or.inl ⟨rfl, _, SqL.of ha1⟩, r1, t, S1, env, rel1, g2.bind.mono fun y S2 r2 H2 ex2 so2 g3 yv dy => ?_⟩
  split at g3
  · rename_i n es he
    obtain ⟨hl, g4⟩ := g3.ite
    obtain ⟨b, ys, ev2, hn, hb, z⟩ := ref_lst so2 (Den.ext ex2 _ _ dv) he
    refine ⟨b, ys, yv, ev2, rfl, hb, by rw [z.length]; exact hl, ?_⟩
    obtain ⟨ex3, so3⟩ := put_lst so2 hn hb (z.append (.cons dy .nil))
    exact g4 _ r2 ex3 so3 _ .non
  · exact (show False from g3).elim
theorem ds_putL (ho : PE X o (tE X (WC E) fo)) (hi : PE X i (tE X (WC E) fi)) (he : PE X e (tE X (WC E) fe)) (hs : swapsWithSole [.Subscript o i pos'] e pos.line X.env = pure false := by rfl) (hw : swappedStores [.Subscript o i pos'] e X.env = pure none := by rfl)
    (h1 : (assignEach [.Subscript o i pos'] X.env).map (·.2) = [assign (.Subscript o i pos') X.env] := by rfl) (ha : ∀ v, assign (.Subscript o i pos') X.env v = (do
      let ov ← holding [v] (eval o X.env)
      let iv ← holding [v, ov] (eval i X.env)
      standAt pos'
      holding [v, ov, iv] (setItem ov iv v)
      release [v, ov, iv] []) := by intro _; rfl) : PS X (.Assign [.Subscript o i pos'] e pos) (tS X E (sPutL fo fi fe)) := by
  refine PS.imp (ps_asg he (pg_sub ho hi set_list ha) hs hw h1) fun D σ H q => ?_
  obtain ⟨r, t, S, env, rel, g⟩ := q
  refine ⟨r, t, S, env, rel, g.bind.mono fun y S1 r1 H1 ex so g1 yv dy => ?_⟩
  have rel1 := rel.ext ex so
  refine ⟨r1, t, S1, env, rel1, g1.bind.mono fun od S2 r2 H2 ex2 so2 g2 ov dov => ?_⟩
  have rel2 := rel1.ext ex2 so2
  refine ⟨r2, t, S2, env, rel2, g2.bind.mono fun id S3 r3 H3 ex3 so3 g3 iv div => ?_⟩
  split at g3
  · rename_i n ds k hds
    split at g3
    · rename_i j hj
      obtain ⟨b, ys, ev2, hn, hb, z⟩ := ref_lst so3 (Den.ext ex3 _ _ dov) hds
      cases div
      obtain ⟨ex4, so4⟩ := put_lst so3 hn hb (z.set j (Den.ext (ex2.trans ex3) _ _ dy))
      exact ⟨b, ys, k, j, ev2, rfl, hb, by rw [z.length]; exact hj, g3 _ r3 ex4 so4 σ ((rel2.ext ex3 so3).ext ex4 so4)⟩
    · exact (show False from g3).elim
  · exact (show False from g3).elim
end

/-! ### defs -/
section
variable {P : Program} {w : World} {K : PySem.W.Frag} {mg : Str → Option Value} {base : Heap}
def dFun (m : Nat) (g : DS) : Fn := fun ds S => (g (ds.map some ++ List.replicate (m - ds.length) none) S).bind fun p S1 => match p.1 with
  | .nx => .ok .non S1
  | .rt d => .ok d S1
  | _ => .bad
/-- .. that lets no exception out -/
def dFun0 (m : Nat) (g : DS) : Fn := fun ds S => noexc (dFun m g ds S)
theorem rel_start {H : Hp} {r t : List Addr} {S : Sto} {vs : List V} {ds : List D} {N : List Str} (so : SOk K mg H r t S) (z : DenL K H r t vs ds) : Rel K mg H r t S (ds.map some ++ List.replicate (N.length - ds.length) none) (start N vs) := by
  unfold start
  refine ⟨so, by simp [z.length], fun i d h => ?_⟩
  by_cases hi : i < ds.length
  · rw [List.getElem?_append_left (by rw [List.length_map]; exact hi), List.getElem?_map] at h
    obtain ⟨d', h1, h2⟩ := Option.map_eq_some_iff.mp h
    have e := Option.some.inj h2
    subst e
    obtain ⟨v, h3, h4⟩ := z.get h1
    refine ⟨v, ?_, h4⟩
    rw [List.getElem?_append_left (by rw [List.length_map, z.length]; exact hi), List.getElem?_map, h3]
    rfl
  · rw [List.getElem?_append_right (by rw [List.length_map]; omega)] at h
    exact absurd (List.mem_of_getElem? h) (by simp)
theorem fin_start {X : Cx} {H : Hp} {r t : List Addr} {S : Sto} {vs : List V} {ds : List D} {Q : VK} {E : XK} {g : DS} {m : Nat} (rel : Rel X.K X.mg H r t S (ds.map some ++ List.replicate (m - ds.length) none) σ0)
    (q : Good X.K X.mg t (EC E) r H (dFun m g ds S) fun d _ r' H' => ∀ v, Den X.K H' r' t v d → Q v H') : tS X E g { nx := fun _ H' => Q .non H', rt := Q } σ0 H := by
  refine ⟨r, t, S, _, rel, (Good.bind q).mono fun p S1 r1 H1 ex so g1 σ1 rel1 => ?_⟩
  obtain ⟨fl, env⟩ := p
  cases fl with
  | nx => exact Good.here g1 so _ .non
  | rt d => exact fun v dv => Good.here g1 so v dv
  | bk => exact (show False from g1).elim
  | ct => exact (show False from g1).elim
theorem good0 {A : Type} {t r : List Addr} {H : Hp} {E E' : Addr → Hp → Prop} {m : Out A} {R : A → Sto → List Addr → Hp → Prop} (g : Good K mg t E r H (noexc m) R) : Good K mg t E' r H m R := by
  cases m with
  | ok a S => exact g
  | exc c S => exact (show False from g).elim
  | bad => exact (show False from g).elim
theorem Fun.okD {x qual : Str} {st : Stmt} {f : Addr} {fd : FuncData} {N ps : List Str} {k n : Nat} {g : DS} (F : Fun K x qual st f fd) (S : FnScope N ps (defScope st)) (hn : ps.length = n)
    (hbody : ∀ (cdv : Value) (A : Around) (outer : List Env) (s : Shared) (H : Hp) (E : XK), Room k (A.deeper (envOfC qual (defScope st) s.heap.objs.size f cdv)) →
      PSs (cxOf CX0 P w K mg base N qual (defScope st) f cdv A outer s H E).nox (defBody st) (tS (cxOf CX0 P w K mg base N qual (defScope st) f cdv A outer s H E).nox E0 g)) : FnOk P w K mg base CX0 (k + 1) f fd ps (spD K mg n (dFun0 N.length g)) := by
  refine F.ok S (fun vs H Q E h => h.1.trans hn.symm) fun cdv A outer s H vs Q E hr h => ⟨_, hbody cdv A outer s H E hr, ?_⟩
  obtain ⟨_, r, t, S0, ds, so, z, q⟩ := h
  exact fin_start (X := (cxOf CX0 P w K mg base N qual (defScope st) f cdv A outer s H E).nox) (vs := vs) (rel_start so z) (good0 q)
/-- a def that may raise -/
theorem Fun.okXD {x qual : Str} {st : Stmt} {f : Addr} {fd : FuncData} {N ps : List Str} {k n : Nat} {g : DS} (F : Fun K x qual st f fd) (S : FnScope N ps (defScope st)) (hn : ps.length = n)
    (hbody : ∀ (cdv : Value) (A : Around) (outer : List Env) (s : Shared) (H : Hp) (E : XK), Room k (A.deeper (envOfC qual (defScope st) s.heap.objs.size f cdv)) →
      PSs (cxOf (L2.CX P w) P w K mg base N qual (defScope st) f cdv A outer s H E) (defBody st) (tS (cxOf (L2.CX P w) P w K mg base N qual (defScope st) f cdv A outer s H E) E g)) : FnOk P w K mg base (L2.CX P w) (k + 1) f fd ps (spD K mg n (dFun N.length g)) := by
  refine F.okX S (fun vs H Q E h => h.1.trans hn.symm) fun cdv A outer s H vs Q E hr h => ⟨_, hbody cdv A outer s H E hr, ?_⟩
  obtain ⟨_, r, t, S0, ds, so, z, q⟩ := h
  exact fin_start (X := cxOf (L2.CX P w) P w K mg base N qual (defScope st) f cdv A outer s H E) (vs := vs) (rel_start so z) q
/-- another function that comes to the same -/
theorem spD_imp {n : Nat} {f f' : Fn} (h : ∀ ds S, ds.length = n → f ds S = f' ds S) : ∀ vs H Q E, spD K mg n f' vs H Q E → spD K mg n f vs H Q E := fun vs H Q E q => by
  obtain ⟨h1, r, t, S, ds, so, z, g⟩ := q
  refine ⟨h1, r, t, S, ds, so, z, ?_⟩
  rw [h ds S (z.length.symm.trans h1)]
  exact g
/-- a def of the module that may be called -/
structure Callee (P : Program) (w : World) (K : PySem.W.Frag) (mg : Str → Option Value) (base : Heap) (CX : CXT) (k : Nat) (x : Str) (n : Nat) (fn : Fn) : Prop where
  ex : ∃ f fd ps, FnOk P w K mg base CX k f fd ps (spD K mg n fn) ∧ mg x = some (.ref f) ∧ PySem.W.keepIn K (.ref f) = true ∧ Binds K fd ps []
theorem Callee.up {CX : CXT} {j k n : Nat} {x : Str} {fn : Fn} (c : Callee P w K mg base CX j x n fn) (h : j ≤ k) : Callee P w K mg base CX k x n fn := by
  obtain ⟨f, fd, ps, F, a, b, d⟩ := c
  exact ⟨f, fd, ps, F.mono h, a, b, d⟩
/-- it comes to another function that is the same -/
theorem Callee.as {CX : CXT} {k n : Nat} {x : Str} {fn fn' : Fn} (c : Callee P w K mg base CX k x n fn) (h : ∀ ds S, ds.length = n → fn ds S = fn' ds S) : Callee P w K mg base CX k x n fn' := by
  obtain ⟨f, fd, ps, F, a, b, d⟩ := c
  exact ⟨f, fd, ps, F.imp (spD_imp h), a, b, d⟩
theorem de_callC {X : Cx} {W : WX} {CX : CXT} {k n : Nat} {fn : Fn} {x : Str} {p pos : Pos} {e : Expr} {es : List Expr} {fs : DA} (c : Callee X.prog X.w X.K X.mg X.base CX k x n fn) (hr : Room k X.A) (hx : Thru CX X W) (ha : ArgN X W (e :: es) fs n) (hg : Gl X x := by rfl) (hdb : (x == ("__debug__" : Str)) = false := by decide)
    (he : starEach (e :: es) X.env = (false, eval e X.env) :: starEach es X.env := by rfl) (hpl : (backTo pos (starEach es X.env)).any (·.1) = false := by rfl) : PE X (.Call (.Name x p) (e :: es) [] pos) (tE X W (dCallF fn fs)) := by
  obtain ⟨f, fd, ps, F, a, b, d⟩ := c
  exact de_callF F hr hg a b d hx ha hdb he hpl
theorem hu65 {A : Around} {k : Nat} (hr : Room k A) : A.units + 65 < cLine := by have := hr.un; omega
end
end DL
end L2

set_option Elab.async false
set_option linter.all false
set_option maxRecDepth 100000
namespace L2
namespace DL
open PySem PySem.Spec PyProof.Rows

theorem sum_rawT {prog : Program} {w : World} {A : Around} {E : Value → Shared → Prop} {s : Shared} {l : Addr} {its : List Value} {ns : List Int} {Q : Value → Shared → Prop} (hh : A.handled = none) (hl : s.heap.IsTuple l its.toArray) (hi : IntsAre its ns)
    (h : ∀ h' tk t', (∀ b o, s.heap.get? b = some o → h'.get? b = some o) → Q (.int ns.sum t') { s with heap := h', toks := tk }) : wpAny (model prog w) A (call (.builtin "sum") [.ref l]) Q E s := by
  obtain ⟨xs, e⟩ := hi.allInts.items
  have hn : numsOf (intItems xs).toList = ns := by rw [← e]; exact hi.numsOf
  rw [nums_intItems] at hn
  rw [e] at hl
  refine PySem.W.ktm_sumG hh hl fun h' tk t' hk => ?_
  have := h h' tk t' hk
  rw [preSum_eq, List.take_of_length_le (by simp), hn]; exact this
section
variable {X : Cx}
theorem cr_sumT (hc : X.calm = true) : CallR X (.builtin "sum") (fun vs H Q => ∃ (a : Addr) (ns : List Int), vs = [V.ref a] ∧ SqT X.K H a (ns.map V.int) ∧ Q (.int ns.sum) H) := by
  intro pins s σ H vs us Q I r h
  obtain ⟨a, ns, rfl, hs, q⟩ := h
  obtain ⟨its, rv, hl, _⟩ := I.tuple hs
  rw [Vals.ref1 r]
  exact sum_rawT (I.ok.hd hc) (show s.heap.IsTuple a its.toArray from hl) rv.ints fun h' tk t' hk => ⟨.int _, H, I.kept hk, ⟨_, rfl⟩, q⟩
def oSumT : Sto → List D → Option D := fun _ ds => match ds with
  | [.tup xs] => (intsOf xs).map fun bs => .int bs.sum
  | _ => none
theorem cd_sumT (hc : X.calm = true) : CallD X (.builtin "sum") oSumT := by
  refine ⟨_, cr_sumT hc, fun r t S H ds vs d Q so dv e q => ?_⟩
  unfold oSumT at e
  split at e
  · obtain ⟨bs, h1, h2⟩ := Option.map_eq_some_iff.mp e
    subst h2
    cases dv with
    | cons d1 d2 =>
      cases d2
      cases d1 with
      | tup h0 z =>
        have h3 := sqT_of (K := X.K) h0
        rw [ints_eq h1] at z
        rw [z.ints] at h3
        exact ⟨_, bs, rfl, h3, q _ _ (Ext.refl _ _) so (.int _)⟩
  · cases e
def oSum : Sto → List D → Option D := orC oSumT oSumL
theorem cd_sum (hc : X.calm = true) : CallD X (.builtin "sum") oSum := (cd_sumT hc).or (cd_sumL hc)
/-- {} -/
def dNewK : DE := fun _ S => .ok (.ref S.length) (S ++ [.dK []])
def dNewT : DE := fun _ S => .ok (.ref S.length) (S ++ [.dT []])
theorem growC {K : PySem.W.Frag} {mg : Str → Option Value} {H : Hp} {r t : List Addr} {S : Sto} {p : Addr} {o : HO} {c : Cell} (so : SOk K mg H r t S) (hp : H p = none) (hc : CellOk K mg (upd H p o) (r ++ [p]) t p c) :
    SOk K mg (upd H p o) (r ++ [p]) t (S ++ [c]) ∧ Den K (upd H p o) (r ++ [p]) t (.ref p) (.ref S.length) := by
  refine ⟨so.grow hp hc, .ref ?_⟩
  rw [← so.len, List.getElem?_append_right (Nat.le_refl _), Nat.sub_self]
  rfl
theorem de_newK {W : WX} {pos : Pos} : PE X (.Dict [] [] pos) (tE X W dNewK) := by
  refine PE.imp pe_dnewK fun σ H Q q p hp => ?_
  obtain ⟨r, t, S, env, rel, g⟩ := q
  obtain ⟨so, d⟩ := growC (o := .dK []) (c := .dK []) rel.so hp ⟨[], upd_same, rfl, .nil⟩
  exact g _ _ (Ext.grow hp) so _ d
theorem de_newT {W : WX} {pos : Pos} : PE X (.Dict [] [] pos) (tE X W dNewT) := by
  refine PE.imp pe_dnewT fun σ H Q q p hp => ?_
  obtain ⟨r, t, S, env, rel, g⟩ := q
  obtain ⟨so, d⟩ := growC (o := .dT []) (c := .dT []) rel.so hp ⟨[], upd_same, rfl, .nil⟩
  exact g _ _ (Ext.grow hp) so _ d
end
/-- the law's promise, by what its function comes to -/
def spLaw (K : PySem.W.Frag) : Sp := fun vs H Q _ => ∃ (a : Addr) (ns : List Int), vs = [.ref a] ∧ FzL K H a (ns.map V.int) ∧ ns.length ≤ 63 ∧ ∀ H', Q (.bl true) H'
theorem denInts {K : PySem.W.Frag} {H : Hp} {r t : List Addr} : ∀ ns : List Int, DenL K H r t (ns.map V.int) (ns.map D.int)
  | [] => .nil
  | n :: ns => .cons (.int n) (denInts ns)
theorem law_ok {P : Program} {w : World} {K : PySem.W.Frag} {mg : Str → Option Value} {base : Heap} {CX : CXT} {k : Nat} {f : Addr} {fd : FuncData} {ps : List Str} {fn : Fn} (F : FnOk P w K mg base CX k f fd ps (spD K mg 1 fn))
    (h : ∀ ns : List Int, ns.length ≤ 63 → ∃ S, fn [.fz (ns.map D.int)] [] = .ok (.bl true) S) : FnOk P w K mg base CX k f fd ps (spLaw K) := by
  refine F.imp fun vs H Q E q => ?_
  obtain ⟨a, ns, rfl, hS, hl, q⟩ := q
  obtain ⟨S, e⟩ := h ns hl
  refine ⟨rfl, [], [], [], [.fz (ns.map D.int)], ⟨rfl, List.nodup_nil, fun n a c h => by simp at h, fun a h => by cases h⟩, .cons (.fz hS (denInts ns)) .nil, ?_⟩
  rw [e]
  intro H' r' _ _ v dv
  cases dv
  exact q H'
theorem only_fz {K : PySem.W.Frag} {H : Hp} {a : Addr} {xs : List V} (hO : Only H) (hS : SqL K H a xs) : FzL K H a xs := by
  rcases hS with (h | ⟨o, h⟩) | h
  · rcases hO a with z | ⟨o, ys, z⟩
    · rw [h] at z; cases z
    · rw [h] at z; cases z
  · exact .inl ⟨o, h⟩
  · exact .inr h
/-- the places of a def in the written part -/
theorem callee_mk {P : Program} {w : World} {K : PySem.W.Frag} {mg : Str → Option Value} {base : Heap} {CX : CXT} {k n : Nat} {x : Str} {fn : Fn} (c : Callee P w K mg base CX k x n fn) : Callee P w K mg base CX k x n fn := c
end DL
end L2

set_option Elab.async false
set_option linter.all false
set_option maxRecDepth 100000
namespace L2
namespace DL
open PySem PySem.Spec PyProof.Rows

/-! ### reckoning -/
theorem lift_some {A : Type} (a : A) (S : Sto) : lift (some a) S = .ok a S := rfl
theorem lift_none {A : Type} (S : Sto) : lift (none : Option A) S = .bad := rfl
theorem orO_some {o o' : Sto → D → D → Option D} {S : Sto} {x y d : D} (h : o S x y = some d) : orO o o' S x y = some d := by unfold orO; rw [h]
theorem orO_none {o o' : Sto → D → D → Option D} {S : Sto} {x y : D} (h : o S x y = none) : orO o o' S x y = o' S x y := by unfold orO; rw [h]
theorem iOp_int (c : Int → Int → Bool) (g : Int → Int → D) (S : Sto) (i j : Int) : iOp c g S (.int i) (.int j) = if c i j = true then some (g i j) else none := rfl
theorem add_ii (S : Sto) (i j : Int) : oAdd S (.int i) (.int j) = some (.int (i + j)) := rfl
theorem sub_ii (S : Sto) (i j : Int) : oSub S (.int i) (.int j) = some (.int (i - j)) := rfl
theorem neg_i (i : Int) : oNeg (.int i) = some (.int (-i)) := rfl
theorem lt_ii (S : Sto) (i j : Int) : oLt S (.int i) (.int j) = some (.bl (decide (i < j))) := rfl
theorem le_ii (S : Sto) (i j : Int) : oLe S (.int i) (.int j) = some (.bl (decide (i ≤ j))) := rfl
theorem gt_ii (S : Sto) (i j : Int) : oGt S (.int i) (.int j) = some (.bl (decide (j < i))) := rfl
theorem ge_ii (S : Sto) (i j : Int) : oGe S (.int i) (.int j) = some (.bl (decide (j ≤ i))) := rfl
theorem eq_ii (S : Sto) (i j : Int) : oEq S (.int i) (.int j) = some (.bl (decide (i = j))) := by
  show some (D.bl (false ^^ decide (i = j))) = _
  rw [Bool.false_xor]
theorem ne_ii (S : Sto) (i j : Int) : oNe S (.int i) (.int j) = some (.bl (!decide (i = j))) := by
  show some (D.bl (true ^^ decide (i = j))) = _
  rw [Bool.true_xor]
theorem eq_ss (S : Sto) (i j : Str) : oEq S (.str i) (.str j) = some (.bl (decide (i = j))) := by
  show some (D.bl (false ^^ decide (i = j))) = _
  rw [Bool.false_xor]
theorem ne_ss (S : Sto) (i j : Str) : oNe S (.str i) (.str j) = some (.bl (!decide (i = j))) := by
  show some (D.bl (true ^^ decide (i = j))) = _
  rw [Bool.true_xor]
theorem isnot_bb (S : Sto) (i j : Bool) : oIsNot S (.bl i) (.bl j) = some (.bl (!decide (i = j))) := by
  show some (D.bl (true ^^ decide (i = j))) = _
  rw [Bool.true_xor]
theorem is_bb (S : Sto) (i j : Bool) : oIs S (.bl i) (.bl j) = some (.bl (decide (i = j))) := by
  show some (D.bl (false ^^ decide (i = j))) = _
  rw [Bool.false_xor]
theorem is_non (S : Sto) (d : D) : oIs S d .non = some (.bl (isNonD d)) := by
  refine (orO_none (by cases d <;> rfl)).trans ?_
  show some (D.bl (false ^^ isNonD d)) = _
  rw [Bool.false_xor]
theorem isnot_non (S : Sto) (d : D) : oIsNot S d .non = some (.bl (!isNonD d)) := by
  refine (orO_none (by cases d <;> rfl)).trans ?_
  show some (D.bl (true ^^ isNonD d)) = _
  rw [Bool.true_xor]
theorem mul_ii {i j : Int} (S : Sto) (h : i.natAbs < 2 ^ 64 ∨ j.natAbs < 2 ^ 64) : oMul S (.int i) (.int j) = some (.int (i * j)) := by
  refine orO_some ((iOp_int _ _ _ _ _).trans (if_pos ?_))
  unfold mulC
  rw [Bool.or_eq_true, decide_eq_true_eq, decide_eq_true_eq]
  exact h
theorem mod_ii {i j : Int} (S : Sto) (h : 0 < j) : oMod S (.int i) (.int j) = some (.int (i % j)) := (iOp_int _ _ _ _ _).trans (if_pos (decide_eq_true h))
theorem div_ii {i j : Int} (S : Sto) (h : 0 < j) (h2 : j < 2 ^ 80) : oDiv S (.int i) (.int j) = some (.int (i / j)) := by
  refine (iOp_int _ _ _ _ _).trans (if_pos ?_)
  unfold divC
  rw [Bool.and_eq_true, decide_eq_true_eq, decide_eq_true_eq]
  exact ⟨h, h2⟩
theorem pow_ii {i j : Int} (S : Sto) (h : 0 ≤ j) (h2 : j ≤ 1000000) (h3 : i.natAbs < 2 ^ 64) : oPow S (.int i) (.int j) = some (.int (i ^ j.toNat)) := by
  refine (iOp_int _ _ _ _ _).trans (if_pos ?_)
  unfold powC
  rw [Bool.and_eq_true, Bool.and_eq_true, decide_eq_true_eq, decide_eq_true_eq, decide_eq_true_eq]
  exact ⟨⟨h, h2⟩, h3⟩
theorem at_nat {ds : List D} {i : Int} {d : D} (h0 : 0 ≤ i) (h : ds[i.toNat]? = some d) : atI ds i = some d := by
  have e : i = ((i.toNat : Nat) : Int) := by omega
  rw [e]
  exact atI_nat h
theorem ix_tupD (S : Sto) (ds : List D) (i : Int) : oIx S (.tup ds) (.int i) = atI ds i := by
  refine (orO_none rfl).trans ?_
  cases h : atI ds i with
  | none => exact (orO_none h).trans rfl
  | some d => exact orO_some h
theorem ix_lstD (S : Sto) (ds : List D) (i : Int) : oIx S (.lst ds) (.int i) = atI ds i := by
  cases h : atI ds i with
  | none => exact (orO_none h).trans rfl
  | some d => exact orO_some h
theorem ix_fzD (S : Sto) (ds : List D) (i : Int) : oIx S (.fz ds) (.int i) = atI ds i := by
  cases h : atI ds i with
  | none => exact (orO_none h).trans rfl
  | some d => exact orO_some h
theorem lst_ref {S : Sto} {n : Nat} {ds : List D} (hn : S[n]? = some (.lst ds)) : lstOf S (.ref n) = some ds := by
  unfold lstOf
  dsimp only
  rw [hn]
theorem list_ref {S : Sto} {n : Nat} {ds : List D} (hn : S[n]? = some (.lst ds)) : listOf S (.ref n) = some ds := lst_ref hn
theorem ix_refD {S : Sto} {n : Nat} {ds : List D} {i : Int} (hn : S[n]? = some (.lst ds)) : oIx S (.ref n) (.int i) = atI ds i := by
  have e : oIxL S (.ref n) (.int i) = atI ds i := by
    unfold oIxL
    rw [list_ref hn]
  cases h : atI ds i with
  | none => exact (orO_none (e.trans h)).trans rfl
  | some d => exact orO_some (e.trans h)
theorem at_lit0 (d : D) (ds : List D) : atI (d :: ds) 0 = some d := atI_nat (j := 0) rfl
theorem at_lit1 (a d : D) (ds : List D) : atI (a :: d :: ds) 1 = some d := atI_nat (j := 1) rfl
theorem at_lit2 (a b d : D) (ds : List D) : atI (a :: b :: d :: ds) 2 = some d := atI_nat (j := 2) rfl
theorem at_lit3 (a b c d : D) (ds : List D) : atI (a :: b :: c :: d :: ds) 3 = some d := atI_nat (j := 3) rfl
theorem len_fz (S : Sto) (ds : List D) : oLen S [.fz ds] = some (.int ds.length) := rfl
theorem len_lst (S : Sto) (ds : List D) : oLen S [.lst ds] = some (.int ds.length) := rfl
theorem len_tup (S : Sto) (ds : List D) : oLen S [.tup ds] = some (.int ds.length) := rfl
theorem len_ref {S : Sto} {n : Nat} {ds : List D} (hn : S[n]? = some (.lst ds)) : oLen S [.ref n] = some (.int ds.length) := by
  show (listOf S (.ref n)).map _ = _
  rw [list_ref hn]
  rfl
/-- a comprehension whose elements leave the store within I -/
theorem compGo_inv {g : DG} {env : Ev} {te : DE} (I : Sto → Prop) (P : D → Prop) : ∀ (ds acc : List D) (S : Sto), I S → (∀ d ∈ ds, ∀ S, I S → ∃ env' y S', g env d = some env' ∧ te env' S = .ok y S' ∧ I S' ∧ P y) → acc.length + ds.length ≤ sizeLine →
    ∃ ys S', compGo g env bYes te ds acc S = .ok (acc ++ ys) S' ∧ I S' ∧ ys.length = ds.length ∧ ∀ y ∈ ys, P y
  | [], acc, S, hI, _, _ => ⟨[], S, by rw [List.append_nil]; rfl, hI, rfl, fun _ h => by cases h⟩
  | d :: ds, acc, S, hI, hs, hl => by
    obtain ⟨env', y, S1, e1, e2, hI1, py⟩ := hs d List.mem_cons_self S hI
    rw [List.length_cons] at hl
    obtain ⟨ys, S2, e3, hI2, e4, py2⟩ := compGo_inv I P ds (acc ++ [y]) S1 hI1 (fun d hd => hs d (List.mem_cons_of_mem _ hd)) (by rw [List.length_append]; simp only [List.length_cons, List.length_nil]; omega)
    refine ⟨y :: ys, S2, ?_, hI2, by rw [List.length_cons, List.length_cons, e4], fun z hz => ?_⟩
    · unfold compGo
      rw [e1]
      dsimp only
      unfold bYes
      show (noexc (te env' S)).bind _ = _
      rw [e2]
      show (if acc.length < sizeLine then compGo g env bYes te ds (acc ++ [y]) S1 else .bad) = _
      rw [if_pos (by omega), e3, List.append_assoc]
      rfl
    · rcases List.mem_cons.mp hz with e | e
      · rw [e]; exact py
      · exact py2 z e
/-- a pure one -/
theorem compGo_map {g : DG} {env : Ev} {te : DE} {S : Sto} (f : D → D) : ∀ (ds acc : List D), (∀ d ∈ ds, ∃ env', g env d = some env' ∧ te env' S = .ok (f d) S) → acc.length + ds.length ≤ sizeLine → compGo g env bYes te ds acc S = .ok (acc ++ ds.map f) S
  | [], acc, _, _ => by rw [List.map_nil, List.append_nil]; rfl
  | d :: ds, acc, hs, hl => by
    obtain ⟨env', e1, e2⟩ := hs d List.mem_cons_self
    rw [List.length_cons] at hl
    have ih := compGo_map f ds (acc ++ [f d]) (fun d hd => hs d (List.mem_cons_of_mem _ hd)) (by rw [List.length_append]; simp only [List.length_cons, List.length_nil]; omega)
    unfold compGo
    rw [e1]
    dsimp only
    unfold bYes
    show (noexc (te env' S)).bind _ = _
    rw [e2]
    show (if acc.length < sizeLine then compGo g env bYes te ds (acc ++ [f d]) S else .bad) = _
    rw [if_pos (by omega), ih, List.append_assoc]
    rfl
/-- a for whose turns go on, or leave the loop -/
theorem forGo_inv {g : DG} {b : DS} (I : Ev → Sto → Prop) : ∀ (ds : List D) (env : Ev) (S : Sto), I env S → (∀ d ∈ ds, ∀ env S, I env S → ∃ env1 fl env2 S', g env d = some env1 ∧ b env1 S = .ok (fl, env2) S' ∧ I env2 S' ∧ (fl = .nx ∨ fl = .bk)) →
    ∃ env' S', forGo g b ds env S = .ok (.nx, env') S' ∧ I env' S'
  | [], env, S, hI, _ => ⟨env, S, rfl, hI⟩
  | d :: ds, env, S, hI, hs => by
    obtain ⟨env1, fl, env2, S1, e1, e2, hI1, hfl⟩ := hs d List.mem_cons_self env S hI
    rcases hfl with e | e
    · subst e
      obtain ⟨env', S', e3, hI2⟩ := forGo_inv I ds env2 S1 hI1 (fun d hd => hs d (List.mem_cons_of_mem _ hd))
      refine ⟨env', S', ?_, hI2⟩
      unfold forGo
      rw [e1]
      dsimp only
      rw [e2]
      exact e3
    · subst e
      refine ⟨env2, S1, ?_, hI1⟩
      unfold forGo
      rw [e1]
      dsimp only
      rw [e2]
      rfl
theorem seq_nx {f g : DS} {env env' : Ev} {S S' : Sto} (h : f env S = .ok (.nx, env') S') : sSeq f g env S = g env' S' := by
  unfold sSeq
  rw [h]
  rfl
theorem seq_rt {f g : DS} {env env' : Ev} {S S' : Sto} {d : D} (h : f env S = .ok (.rt d, env') S') : sSeq f g env S = .ok (.rt d, env') S' := by
  unfold sSeq
  rw [h]
  rfl
theorem seq_fl {f g : DS} {env env' : Ev} {S S' : Sto} {fl : Fl} (h : f env S = .ok (fl, env') S') (hf : fl ≠ .nx) : sSeq f g env S = .ok (fl, env') S' := by
  unfold sSeq
  rw [h]
  cases fl with
  | nx => exact absurd rfl hf
  | _ => rfl
theorem if_t {c : DB} {f g : DS} {env : Ev} {S S' : Sto} (h : c env S = .ok true S') : sIf c f g env S = f env S' := by
  unfold sIf
  rw [h]
  rfl
theorem if_f {c : DB} {f g : DS} {env : Ev} {S S' : Sto} (h : c env S = .ok false S') : sIf c f g env S = g env S' := by
  unfold sIf
  rw [h]
  rfl
theorem fun0_rt {m : Nat} {g : DS} {ds : List D} {S S' : Sto} {d : D} {env : Ev} (h : g (ds.map some ++ List.replicate (m - ds.length) none) S = .ok (.rt d, env) S') : dFun0 m g ds S = .ok d S' := by
  unfold dFun0 dFun
  rw [h]
  rfl
theorem asB_bl (b : Bool) : asB (.bl b) = some b := rfl
theorem ite_ok {A : Type} {c : Bool} {x y : A} : (if c = true then x else y) = bif c then x else y := by cases c <;> rfl
theorem putL_ref {fo fi fe : DE} {env : Ev} {S S1 S2 S3 : Sto} {y : D} {n j : Nat} {ds : List D} {k : Int} (h1 : fe env S = .ok y S1) (h2 : fo env S1 = .ok (.ref n) S2) (h3 : fi env S2 = .ok (.int k) S3) (hl : S3[n]? = some (.lst ds)) (hk : ixN ds.length k = some j) :
    sPutL fo fi fe env S = .ok (.nx, env) (S3.set n (.lst (ds.set j y))) := by
  unfold sPutL
  rw [h1, Out.bind_ok, h2, Out.bind_ok, h3, Out.bind_ok, lst_ref hl]
  dsimp only
  rw [hk]
theorem append_ref {fo fa : DE} {env : Ev} {S S1 S2 : Sto} {y : D} {n : Nat} {ds es : List D} (h1 : fo env S = .ok (.ref n) S1) (hl : S1[n]? = some (.lst ds)) (h2 : fa env S1 = .ok y S2) (hl2 : S2[n]? = some (.lst es)) (hz : es.length < sizeLine) :
    dAppend fo fa env S = .ok .non (S2.set n (.lst (es ++ [y]))) := by
  unfold dAppend
  rw [h1, Out.bind_ok, lst_ref hl]
  refine (if_pos (show (some ds).isSome = true from rfl)).trans ?_
  rw [h2, Out.bind_ok, lst_ref hl2]
  dsimp only
  rw [if_pos hz]
theorem set_get {S : Sto} {n : Nat} {c d : Cell} (h : S[n]? = some c) : (S.set n d)[n]? = some d := List.getElem?_set_self (List.getElem?_eq_some_iff.mp h).1
theorem set_set (S : Sto) (n : Nat) (c d : Cell) : (S.set n c).set n d = S.set n d := List.set_set ..
theorem set_same {S : Sto} {n : Nat} {c : Cell} (h : S[n]? = some c) : S.set n c = S := by
  refine List.ext_getElem? fun i => ?_
  by_cases e : n = i
  · subst e; rw [set_get h, h]
  · rw [List.getElem?_set_ne e]
end DL
end L2

set_option Elab.async false
set_option linter.all false
set_option maxRecDepth 100000
namespace L2
namespace DL
open PySem PySem.Spec PyProof.Rows

/-! ### enumerate of a tuple -/
theorem enumT_new (a : Addr) (items : Array Value) (n : Nat) (dct : Option Addr) (sl : Array (Option Value)) : Meets (Builtin.«enumerate.__new__» ⟨[.type "enumerate", .ref a], []⟩)
    (fun _ R s => s.heap.get? a = some { cls := .type "tuple", dict := dct, data := .seq items n, slots := sl } ∧ R (.ok (.ret (.ref (s.heap.push { cls := .type "tuple_iterator", data := .fields #[.ref a, .int 0 0] }).objs.size)))
      { s with heap := (s.heap.push { cls := .type "tuple_iterator", data := .fields #[.ref a, .int 0 0] }).push { cls := .type "enumerate", data := .fields #[.none, .bool false, .ref s.heap.objs.size, rawInt 0, .none, .none] } }) :=
  .of_wp fun prog w A R s hh => by
    obtain ⟨hp, g, dr, tk, os⟩ := s
    obtain ⟨ha, hr⟩ := hh
    have sub := sub_enumerate
    have isT : Heap.IsTuple (Shared.heap ⟨hp, g, dr, tk, os⟩) a items := ⟨_, ha, rfl, n, rfl⟩
    wp_walk using wpAny_loadPart' ha
    refine wpAny_stack_any fun _ => wpAny_pure ?_
    split
    · rename_i cc _ _ _ _ _
      cases (cc == Value.type "enumerate")
      · wp_walk using wpAny_loadPart' ha, wpAny_pyIter_tuple isT
        exact ⟨_, rfl, hr⟩
      · wp_walk using wpAny_loadPart' ha, wpAny_pyIter_tuple isT
        exact ⟨_, rfl, hr⟩
    · wp_walk using wpAny_loadPart' ha, wpAny_pyIter_tuple isT
      exact ⟨_, rfl, hr⟩
section
variable {prog : Program} {w : World} {A : Around} {E : Value → Shared → Prop} {s : Shared}
theorem enumT_call {a : Addr} {items : Array Value} {Q : Value → Shared → Prop} (ht : s.heap.IsTuple a items)
    (q : ∀ h', IsEnum h' (s.heap.objs.size + 1) s.heap.objs.size 0 .none → h'.IsTupleIter s.heap.objs.size a 0 → (∀ b o, s.heap.get? b = some o → h'.get? b = some o) → Q (.ref (s.heap.objs.size + 1)) { s with heap := h' }) :
    wpAny (model prog w) A (call (.type "enumerate") [.ref a]) Q E s := by
  obtain ⟨⟨c, dct, dt, sl⟩, ha, hc, n, hd⟩ := ht
  have hc' : c = .type "tuple" := hc
  have hd' : dt = .seq items n := hd
  subst hc' hd'
  refine callType_new F.called_enumerate (by decide) (F.typeCall_enumerate_1 _) (F.newCall_enumerate_1 _) (fun ob => F.args_object_init_2 ob _) F.entry_enumerate_new (enumT_new a items n dct sl) ⟨ha, ?_⟩
  have sz : (s.heap.push { cls := .type "tuple_iterator", data := .fields #[.ref a, .int 0 0] }).objs.size = s.heap.objs.size + 1 := Heap.size_push ..
  show _ ∧ _
  rw [sz]
  have he := Heap.get?_push_size (s.heap.push { cls := .type "tuple_iterator", data := .fields #[.ref a, .int 0 0] }) (o := { cls := .type "enumerate", data := .fields #[.none, .bool false, .ref s.heap.objs.size, rawInt 0, .none, .none] }) rfl
  rw [sz] at he
  exact ⟨⟨_, he, rfl⟩, q _ he ⟨_, Heap.get?_push_of_some _ (Heap.get?_push_size _ rfl), rfl, rfl⟩ fun b o x => Heap.get?_push_of_some _ (Heap.get?_push_of_some _ x)⟩
end
/-- the tuple at a, each item in a new pair with its place -/
def IteT (K : PySem.W.Frag) (a : Addr) : It :=
  ⟨fun i H => ∃ xs x, SqT K H a xs ∧ xs[i]? = some x, fun i H v H' => ∃ T x, v = .ref T ∧ H T = none ∧ H' = upd H T (.tup [.int (i : Nat), x]) ∧ ∀ xs, SqT K H a xs → xs[i]? = some x, fun i H => ∃ xs, SqT K H a xs ∧ xs.length ≤ i⟩
theorem turn_enumT {P : Program} {w : World} {K : PySem.W.Frag} {elts : List Expr} {kk : Nat} {tpos : Pos} (a e it : Addr) :
    Turn P w K (.Tuple elts kk tpos) (IteT K a) [e, it] e (fun i h => (∃ old, IsEnum h e it ((i : Nat) : Int) old) ∧ h.IsTupleIter it a i ∧ e ≠ it) where
  mem := List.mem_cons_self
  obj := fun i h st b hb => by
    obtain ⟨⟨old, he⟩, ⟨o, ho, hc, hd⟩, _⟩ := st
    rcases List.mem_cons.mp hb with z | z
    · rw [z]; exact ⟨_, he, fun v q => nomatch q⟩
    · rw [List.mem_singleton.mp z]; exact ⟨o, ho, fun v q => by rw [hd] at q; cases q⟩
  keep := fun i h h' st k => by
    obtain ⟨⟨old, he⟩, hi, hne⟩ := st
    exact ⟨⟨old, k e (by simp) _ he⟩, hi.at fun o q => k it (by simp) o q, hne⟩
  item := by
    intro X hP hw hK hc i pins s σ H E I hf st hg
    subst hP hw hK
    obtain ⟨⟨old, he⟩, hit, hne⟩ := st
    obtain ⟨xs, x, hq, hx⟩ := hg
    obtain ⟨its, rv, p, hz⟩ := I.tuple hq
    obtain ⟨u, hu, ru⟩ := rv.get hx
    have isT : s.heap.IsTuple a its.toArray := p
    have hel : e < s.heap.objs.size := Heap.lt_size he
    have hil : it < s.heap.objs.size := by
      obtain ⟨_, q, _⟩ := hit
      exact Heap.lt_size q
    have nea : e ≠ a := fun z => by
      obtain ⟨o, q, qc, _⟩ := isT
      rw [← z, he] at q
      cases q
      exact absurd (Value.type.inj qc) (by decide)
    have nia : a ≠ it := fun z => by
      obtain ⟨o, q, qc, _⟩ := isT
      obtain ⟨o2, q2, qc2, _⟩ := hit
      rw [z, q2] at q
      cases q
      rw [qc2] at qc
      exact absurd (Value.type.inj qc) (by decide)
    have hi : i < its.toArray.size := by
      have := (List.getElem?_eq_some_iff.mp hu).1
      simpa using this
    refine wpAny_pyNext_enum_itemD (Draws.tuple (A := X.A.in1) (I.ok.hd hc) it a nia its.toArray) he ⟨hit, isT⟩ hi hne (by intro z; rcases List.mem_cons.mp z with y | y; exact hne y; exact nea (List.mem_singleton.mp y)) fun y h' tk hy ho hs hT hsz hk => ?_
    have ey : y = u := by
      have h2 : its.toArray[i]? = some u := by simpa using hu
      rw [h2] at hy
      exact (Option.some.inj hy).symm
    subst ey
    refine ⟨_, rfl, wpAny_letOwnedTupleGo_enum (s := { s with heap := h', toks := tk + 1 }) ho fun h2 he2 sb => ?_⟩
    have hT2 : h2.get? s.heap.objs.size = some { cls := .type "tuple", data := .seq #[.int i tk, y] } := (sb.2 _ (Nat.ne_of_gt hel)).trans hT
    have new : ObjOk X.prog X.w (upd H s.heap.objs.size (.tup [.int (i : Nat), x])) h2 s.heap.objs.size (.tup [.int (i : Nat), x]) :=
      ⟨by show 2 ≤ sizeLine; decide, [.int i tk, y], .cons ⟨_, rfl⟩ (.cons ru .nil), ⟨_, hT2, rfl, _, rfl⟩⟩
    have I2 : Inv X pins σ (upd H s.heap.objs.size (.tup [.int (i : Nat), x])) { s with heap := h2, toks := tk + 1 } :=
      I.turnedNew (ch := [e, it]) (fun b ob hb q => (sb.2 b fun z => hb (by simp [z])).trans (hk b ob (fun z => hb (by simp [z])) (fun z => hb (by simp [z])) q)) hf (Nat.le_refl _) new
    refine ⟨.ref s.heap.objs.size, _, I2, rfl, ⟨_, x, rfl, I.hok.fresh (Nat.le_refl _), rfl, fun ys hys => by rw [I.tuple_inj hys hq]; exact hx⟩, ⟨⟨y, ?_⟩, hs.1.at fun o q => (sb.2 it (Ne.symm hne)).trans q, hne⟩, fun b hb => ?_⟩
    · have e1 : ((i + 1 : Nat) : Int) = (i : Int) + 1 := Int.natCast_succ i
      rw [e1]
      exact he2
    · have hb' : b < s.heap.objs.size := by
        rcases List.mem_cons.mp hb with z | z
        · rw [z]; exact hel
        · rw [List.mem_singleton.mp z]; exact hil
      rw [upd_ne (Nat.ne_of_lt hb')]
      exact (hf b hb).1
  done := by
    intro X hP hw hK hc i pins s σ H E I hf st hg
    subst hP hw hK
    obtain ⟨⟨old, he⟩, hit, hne⟩ := st
    obtain ⟨xs, hq, hx⟩ := hg
    obtain ⟨its, rv, p, hz⟩ := I.tuple hq
    have isT : s.heap.IsTuple a its.toArray := p
    have nia : a ≠ it := fun z => by
      obtain ⟨o, q, qc, _⟩ := isT
      obtain ⟨o2, q2, qc2, _⟩ := hit
      rw [z, q2] at q
      cases q
      rw [qc2] at qc
      exact absurd (Value.type.inj qc) (by decide)
    obtain ⟨f0, f1, f2, f3, f4, f5⟩ := hf it (by simp)
    -- the iterator stands at the end
    have hT : s.TypeIs (.ref e) "enumerate" := ⟨_, he, rfl⟩
    unfold pyNext
    refine wpAny_bind (wpAny_attempt (wpAny_callSpecial?_slot (name := Str.ofString "__next__") hT F.slot_enumerate_next (wpAny_call_entry F.slot_enumerate_next hT F.entry_enumerate_next ?_ (F.args_enumerate_next_1 _))))
    show wpAny _ _ (field (.ref e) 2 >>= _) _ _ _
    refine wpAny_bind (wpAny_field he rfl (x := .ref it) rfl ?_)
    have hend : its.toArray[i]? = none := by
      have := rv.length
      simp only [List.getElem?_toArray]
      exact List.getElem?_eq_none (by omega)
    refine wpAny_bind (wpAny_nextOf_tuple_end (A := X.A.in1) (I.ok.hd hc) hit isT hend fun h' y hx' hy => ?_)
    obtain ⟨o, ho, hcl⟩ := hy
    refine wpAny_bind (wpAny_isInstance (T := "StopIteration") (b := true) ⟨o, ho, hcl⟩ isSubtype_stop ?_)
    exact wpAny_pure ⟨rfl, I.turned (t' := s.toks) (fun b o hb q => hx' b o hb q) f0 f1 f3 f4 f5⟩
  self := fun A i s Q E st h => let ⟨⟨_, he⟩, _⟩ := st; wpAny_pyIter_enum he h
def iEnumT (K : PySem.W.Frag) (ta : TA) : TI := fun σ H R => ta σ H fun vs H1 => ∃ a xs, vs = [.ref a] ∧ SqT K H1 a xs ∧ R (IteT K a) H1
theorem pi_enumT {X : Cx} {e : Expr} {ta : TA} {p pos tpos : Pos} {elts : List Expr} {kk : Nat} (hg : Gl X "enumerate") (hm : X.mg "enumerate" = none) (ha : PA X [e] ta) (hs : starEach [e] X.env = [(false, eval e X.env)] := by rfl) : PI X (.Tuple elts kk tpos) (.Call (.Name "enumerate" p) [e] [] pos) (iEnumT X.K ta) := by
  refine ⟨fun pins s σ H R I h => ?_⟩
  refine Call_ (ld_blt I hg hm boot_enumerate (PyProof.Rows.callWith_type1 (thn (ha.run pos pins s σ H _ I h) fun us s1 ⟨vs, H1, I1, r1, q1⟩ => ?_) hs rfl))
  obtain ⟨a, xs, ex, hq, q⟩ := q1
  subst ex
  rw [Vals.ref1 r1]
  obtain ⟨its, rv, p2, hz⟩ := I1.tuple hq
  refine enumT_call (show s1.heap.IsTuple a its.toArray from p2) fun h' he hit hk => wpAny_pyIter_enum he ?_
  have I2 : Inv X pins σ H1 { s1 with heap := h' } := I1.kept (t' := s1.toks) hk
  have hle : ∀ b, b ∈ [s1.heap.objs.size + 1, s1.heap.objs.size] → s1.heap.objs.size ≤ b := fun b hb => by
    rcases List.mem_cons.mp hb with z | z
    · rw [z]; exact Nat.le_succ _
    · rw [List.mem_singleton.mp z]; exact Nat.le_refl _
  exact ⟨s1.heap.objs.size + 1, [s1.heap.objs.size + 1, s1.heap.objs.size], _, _, H1, rfl, I2, turn_enumT a (s1.heap.objs.size + 1) s1.heap.objs.size, ⟨⟨.none, he⟩, hit, Nat.succ_ne_self _⟩, fun b hb => I1.fpOk (hle b hb) (I1.hok.fresh (hle b hb)), q⟩
/-- the items with their places -/
def enumL : Nat → List D → List D
  | _, [] => []
  | n, d :: ds => .tup [.int (n : Nat), d] :: enumL (n + 1) ds
theorem enumL_get : ∀ {ds : List D} {n i : Nat} {d : D}, (enumL n ds)[i]? = some d → ∃ x, ds[i]? = some x ∧ d = .tup [.int ((n + i : Nat) : Int), x]
  | [], _, _, _, h => by cases h
  | x :: ds, n, 0, d, h => ⟨x, rfl, (Option.some.inj h).symm⟩
  | x :: ds, n, i + 1, d, h => by
    obtain ⟨y, h1, h2⟩ := enumL_get (ds := ds) (n := n + 1) (i := i) h
    exact ⟨y, h1, by rw [h2, Nat.add_right_comm]; rfl⟩
theorem enumL_len : ∀ (ds : List D) (n : Nat), (enumL n ds).length = ds.length
  | [], _ => rfl
  | _ :: ds, n => by rw [List.length_cons, ← enumL_len ds (n + 1)]; rfl
section
variable {X : Cx} {W : WX} {e : Expr} {f : DE} {elts : List Expr} {kk : Nat} {p pos tpos : Pos}
def iEnum (f : DE) : DI := fun env S => (f env S).bind fun d S1 => lift ((itemsOf d).map (enumL 0)) S1
theorem newPair {r t : List Addr} {H : Hp} {S : Sto} {x : V} {d : D} {T : Addr} {i : Nat} (so : SOk X.K X.mg H r t S) (hT : H T = none) (dx : Den X.K H r t x d) :
    Ext r H r (upd H T (.tup [.int (i : Int), x])) ∧ SOk X.K X.mg (upd H T (.tup [.int (i : Int), x])) r t S ∧ Den X.K (upd H T (.tup [.int (i : Int), x])) r t (.ref T) (.tup [.int (i : Int), d]) :=
  ⟨Ext.new hT, so.new hT, .tup upd_same (.cons (.int _) (.cons (Den.ext (Ext.new hT) _ _ dx) .nil))⟩
theorem walk_enumT {a : Addr} {ds : List D} : Walk X (IteT X.K a) [(.ref a, .tup ds)] (enumL 0 ds) := by
  intro i r t H S so tok
  have h := tok _ List.mem_cons_self
  cases h with
  | @tup a xs ds h0 z =>
    have h1 : SqT X.K H a xs := sqT_of h0
    refine ⟨fun e => ⟨xs, h1, by rw [z.length, e, enumL_len]; exact Nat.le_refl _⟩, fun d hd => ?_⟩
    obtain ⟨y, hy, ed⟩ := enumL_get hd
    obtain ⟨v, hv, dv⟩ := z.get hy
    refine ⟨⟨xs, v, h1, hv⟩, fun x H' yl => ?_⟩
    obtain ⟨T, x2, ev, hT, eH, hx⟩ := yl
    have ex := Option.some.inj (hv.symm.trans (hx xs h1))
    subst ev eH ex ed
    rw [Nat.zero_add]
    exact newPair so hT dv
theorem walk_enumL {a : Addr} {d0 : D} {ds : List D} (hd0 : d0 = .lst ds ∨ d0 = .fz ds) : Walk X (Ite X.K a) [(.ref a, d0)] (enumL 0 ds) := by
  intro i r t H S so tok
  have h := tok _ List.mem_cons_self
  obtain ⟨xs, h1, z⟩ : ∃ xs, SqL X.K H a xs ∧ DenL X.K H r t xs ds := by
    rcases hd0 with e | e
    · subst e
      cases h with
      | lst h1 n m z => exact ⟨_, .inl (.inl h1), z⟩
    · subst e
      cases h with
      | fz h1 z => exact ⟨_, h1.sq, z⟩
  refine ⟨fun e => ⟨xs, h1, by rw [z.length, e, enumL_len]; exact Nat.le_refl _⟩, fun d hd => ?_⟩
  obtain ⟨y, hy, ed⟩ := enumL_get hd
  obtain ⟨v, hv, dv⟩ := z.get hy
  refine ⟨⟨xs, v, h1, hv⟩, fun x H' yl => ?_⟩
  obtain ⟨T, x2, ev, hT, eH, hx⟩ := yl
  have ex := Option.some.inj (hv.symm.trans (hx xs h1))
  subst ev eH ex ed
  rw [Nat.zero_add]
  exact newPair so hT dv
theorem di_enum (hg : Gl X "enumerate") (hm : X.mg "enumerate" = none) (he : PE X e (tE X W f)) (hs1 : starEach [e] X.env = (false, eval e X.env) :: starEach [] X.env := by rfl) (hs : starEach [e] X.env = [(false, eval e X.env)] := by rfl) : PI X (.Tuple elts kk tpos) (.Call (.Name "enumerate" p) [e] [] pos) (tI X W (iEnum f)) := by
  refine PI.imp (PI.or (pi_enumT hg hm (pa_cons he pa_nil hs1) hs) (pi_enum hg hm (pa_cons he pa_nil hs1) hs)) fun σ H R q => ?_
  obtain ⟨r, t, S, env, rel, g⟩ := q
  unfold iEnum at g
  cases h : f env S with
  | bad => rw [h] at g; exact (show False from g).elim
  | exc c S1 =>
    rw [h, Out.bind_exc] at g
    refine .inl ⟨r, t, S, env, rel, ?_⟩
    rw [h]
    exact g
  | ok d S1 =>
    rw [h, Out.bind_ok] at g
    obtain ⟨ds, e1, g1⟩ := g.lift
    cases d with
    | tup es =>
      cases e1
      refine .inl ⟨r, t, S, env, rel, ?_⟩
      rw [h]
      intro H1 r1 ex so v dv
      cases dv with
      | tup h1 z => exact ⟨_, _, rfl, sqT_of h1, g1 H1 r1 ex so _ _ walk_enumT (by intro p hp; have ep := List.mem_singleton.mp hp; subst ep; exact .tup h1 z)⟩
    | lst es =>
      cases e1
      refine .inr ⟨r, t, S, env, rel, ?_⟩
      rw [h]
      intro H1 r1 ex so v dv
      cases dv with
      | lst h1 n m z => exact ⟨_, _, rfl, .inl (.inl h1), g1 H1 r1 ex so _ _ (walk_enumL (.inl rfl)) (by intro p hp; have ep := List.mem_singleton.mp hp; subst ep; exact .lst h1 n m z)⟩
    | fz es =>
      cases e1
      refine .inr ⟨r, t, S, env, rel, ?_⟩
      rw [h]
      intro H1 r1 ex so v dv
      cases dv with
      | fz h1 z => exact ⟨_, _, rfl, h1.sq, g1 H1 r1 ex so _ _ (walk_enumL (.inr rfl)) (by intro p hp; have ep := List.mem_singleton.mp hp; subst ep; exact .fz h1 z)⟩
    | _ => cases e1
end
end DL
end L2

set_option Elab.async false
set_option linter.all false
set_option maxRecDepth 100000
namespace L2
namespace DL
open PySem PySem.Spec PyProof.Rows

/-! ### texts that stand alone, what is never reached -/
def sNop : DS := fun env S => .ok (.nx, env) S
def sBad : DS := fun _ _ => .bad
section
variable {X : Cx} {E : XK} {pos pos' : Pos}
theorem ds_doc {x j} : PS X (.Expr (.Constant (.str x) j pos) pos') (tS X E sNop) := PS.imp ps_doc fun D σ H q => by
  obtain ⟨r, t, S, env, rel, g⟩ := q
  exact g.here rel.so σ rel
theorem ds_bad {st : Stmt} : PS X st (tS X E sBad) := ⟨fun pins s σ H D I q => by
  obtain ⟨_, _, _, _, _, g⟩ := q
  exact (show False from g).elim⟩
def dBad : DE := fun _ _ => .bad
theorem de_bad {W : WX} {e : Expr} : PE X e (tE X W dBad) := ⟨fun pins s σ H Q I q => by
  obtain ⟨_, _, _, _, _, g⟩ := q
  exact (show False from g).elim⟩
theorem dts_one {W : WX} {c : Expr} {tt : DB} (h : PT X c (tB' X W tt)) : PTs X [c] (tB' X W tt) := pts_one h
end

/-! ### constants of the module -/
def GlobIs (K : PySem.W.Frag) (mg : Str → Option Value) (x : Str) (d : D) : Prop := ∃ v u, mg x = some u ∧ RelV v u ∧ ∀ H r t, Den K H r t v d
section
variable {K : PySem.W.Frag} {h : Heap} {mg : Str → Option Value} {x : Str} {tk : Tok}
theorem glob_int {i : Int} (X : K.In h) (G : h.Ns mainGlobals mg) (e : PySem.W.nsIn K mainGlobals x = some (some (.int i tk))) : GlobIs K mg x (.int i) :=
  ⟨.int i, _, PySem.W.mg_of X G e, ⟨_, rfl⟩, fun _ _ _ => .int i⟩
theorem glob_str {z : Str} (X : K.In h) (G : h.Ns mainGlobals mg) (e : PySem.W.nsIn K mainGlobals x = some (some (.str z tk))) : GlobIs K mg x (.str z) :=
  ⟨.str z, _, PySem.W.mg_of X G e, ⟨_, rfl⟩, fun _ _ _ => .str z⟩
theorem de_globI {X : Cx} {W : WX} {d : D} {pos : Pos} (g : GlobIs X.K X.mg x d) (hg : Gl X x := by rfl) (hb : (x == ("__debug__" : Str)) = false := by decide) : PE X (.Name x pos) (tE X W (dC d)) := by
  obtain ⟨v, u, h1, h2, h3⟩ := g
  exact de_glob hg h1 h2 h3 hb
end

/-! ### in: flat things in a row of flat things; a sign in a text -/
def flD : D → Option V
  | .non => some .non
  | .bl b => some (.bl b)
  | .int i => some (.int i)
  | .str x => some (.str x)
  | _ => none
def flDL : List D → Option (List V)
  | [] => some []
  | d :: ds => match flD d, flDL ds with
    | some v, some vs => some (v :: vs)
    | _, _ => none
section
variable {K : PySem.W.Frag} {H : Hp} {r t : List Addr}
theorem flD_ok {d : D} {v u : V} (dv : Den K H r t v d) (h : flD d = some u) : v = u ∧ flatV u = true := by
  cases dv <;> first | (cases h; exact ⟨rfl, rfl⟩) | cases h
theorem flDL_ok : ∀ {ds : List D} {vs us : List V}, DenL K H r t vs ds → flDL ds = some us → vs = us ∧ us.all flatV = true
  | [], _, _, .nil, h => by cases h; exact ⟨rfl, rfl⟩
  | d :: ds, _, _, .cons h1 h2, h => by
    unfold flDL at h
    split at h
    · rename_i u us e1 e2
      cases h
      obtain ⟨a1, a2⟩ := flD_ok h1 e1
      obtain ⟨b1, b2⟩ := flDL_ok h2 e2
      subst a1 b1
      exact ⟨rfl, by rw [List.all_cons, a2, b2]; rfl⟩
    · cases h
end
def seqOf (S : Sto) : D → Option (List D)
  | .tup ds => some ds
  | d => listOf S d
def oInF (neg : Bool) : Sto → D → D → Option D := fun S x y => match flD x, seqOf S y with
  | some u, some ds => (flDL ds).map fun us => .bl (if neg then !inV u us else inV u us)
  | _, _ => none
def signOf (x : Str) : Option Nat := match x.cps.toList with
  | [c] => some c
  | _ => none
theorem signOf_ok {x : Str} {c : Nat} (h : signOf x = some c) : x = ⟨#[c]⟩ := by
  unfold signOf at h
  split at h
  · rename_i e
    cases h
    cases x with
    | mk a =>
      have e2 : a = #[c] := by
        have h3 : a.toList = [c] := e
        have := congrArg List.toArray h3
        simpa using this
      rw [e2]
  · cases h
def oInS (neg : Bool) : Sto → D → D → Option D := fun _ x y => match x, y with
  | .str a, .str z => (signOf a).map fun c => .bl (neg ^^ decide (c ∈ z.cps.toList))
  | _, _ => none
section
variable {X : Cx}
theorem seq_ok {K : PySem.W.Frag} {mg : Str → Option Value} {H : Hp} {r t : List Addr} {S : Sto} {d : D} {v : V} {ds : List D} (so : SOk K mg H r t S) (dv : Den K H r t v d) (h : seqOf S d = some ds) : ∃ a xs, v = .ref a ∧ (SqL K H a xs ∨ SqT K H a xs) ∧ DenL K H r t xs ds := by
  cases dv with
  | tup h1 z => cases h; exact ⟨_, _, rfl, .inr (sqT_of h1), z⟩
  | lst h1 n m z => obtain ⟨a, xs, e1, e2, e3⟩ := list_ok so (.lst h1 n m z) h; exact ⟨a, xs, e1, .inl e2, e3⟩
  | fz h1 z => obtain ⟨a, xs, e1, e2, e3⟩ := list_ok so (.fz h1 z) h; exact ⟨a, xs, e1, .inl e2, e3⟩
  | ref h1 => obtain ⟨a, xs, e1, e2, e3⟩ := list_ok so (.ref h1) h; exact ⟨a, xs, e1, .inl e2, e3⟩
  | _ => cases h
theorem od_inF' {neg : Bool} {r t : List Addr} {S : Sto} {H : Hp} {x y : D} {v u : V} {d : D} {Q : VK} (so : SOk X.K X.mg H r t S) (dx : Den X.K H r t v x) (dy : Den X.K H r t u y) (e : oInF neg S x y = some d)
    (q : ∀ w H', Ext r H r H' → SOk X.K X.mg H' r t S → Den X.K H' r t w d → Q w H') : rIn X.K neg v u H Q := by
  unfold oInF at e
  split at e
  · rename_i a ds e1 e2
    obtain ⟨us, e3, e4⟩ := Option.map_eq_some_iff.mp e
    subst e4
    obtain ⟨p, xs, ev, hs, z⟩ := seq_ok so dy e2
    obtain ⟨ex, fx⟩ := flD_ok dx e1
    obtain ⟨es, fs⟩ := flDL_ok z e3
    subst ex es
    exact ⟨p, xs, ev, hs, fx, fs, q _ _ (Ext.refl _ _) so (.bl _)⟩
  · cases e
theorem od_inF : OpD X (compareOp .In) (oInF false) := ⟨_, op_in_seq, fun r t S H x y v u d Q so dx dy e q => od_inF' so dx dy e q⟩
theorem od_notInF : OpD X (compareOp .NotIn) (oInF true) := ⟨_, op_notIn_seq, fun r t S H x y v u d Q so dx dy e q => od_inF' so dx dy e q⟩
theorem od_inS : OpD X (compareOp .In) (oInS false) := by
  refine ⟨_, op_in_sign, fun r t S H x y v u d Q so dx dy e q => ?_⟩
  unfold oInS at e
  split at e
  · rename_i a z
    obtain ⟨c, e1, e2⟩ := Option.map_eq_some_iff.mp e
    subst e2
    cases dx
    cases dy
    rw [signOf_ok e1]
    refine ⟨c, z, rfl, rfl, q _ _ (Ext.refl _ _) so ?_⟩
    rw [Bool.false_xor]
    exact .bl _
  · cases e
theorem od_notInS : OpD X (compareOp .NotIn) (oInS true) := by
  refine ⟨_, op_notIn_sign, fun r t S H x y v u d Q so dx dy e q => ?_⟩
  unfold oInS at e
  split at e
  · rename_i a z
    obtain ⟨c, e1, e2⟩ := Option.map_eq_some_iff.mp e
    subst e2
    cases dx
    cases dy
    rw [signOf_ok e1]
    refine ⟨c, z, rfl, rfl, q _ _ (Ext.refl _ _) so ?_⟩
    rw [Bool.true_xor]
    exact .bl _
  · cases e
def oIn (neg : Bool) : Sto → D → D → Option D := orO (oInF neg) (orO (oInD neg) (oInS neg))
theorem od_in (hu : X.A.units + 65 < cLine) : OpD X (compareOp .In) (oIn false) := od_inF.or ((od_inD hu).or od_inS)
theorem od_notIn (hu : X.A.units + 65 < cLine) : OpD X (compareOp .NotIn) (oIn true) := od_notInF.or ((od_notInD hu).or od_notInS)
end

/-! ### sorted -/
def sortI (ns : List Int) : List Int := ns.mergeSort fun a b => decide (a ≤ b)
theorem sortI_perm (ns : List Int) : (sortI ns).Perm ns := List.mergeSort_perm ..
theorem sortI_pair (ns : List Int) : (sortI ns).Pairwise (· ≤ ·) := by
  have h := List.pairwise_mergeSort (le := fun a b : Int => decide (a ≤ b)) (fun a b c h1 h2 => by simp only [decide_eq_true_eq] at *; omega) (fun a b => by simp only [Bool.or_eq_true, decide_eq_true_eq]; omega) ns
  exact h.imp fun h => of_decide_eq_true h
theorem sortI_only {ns ns' : List Int} (h : ns'.Perm ns) (hp : ns'.Pairwise (· ≤ ·)) : ns' = sortI ns :=
  List.Perm.eq_of_pairwise (fun a b _ _ h1 h2 => by omega) hp (sortI_pair ns) (h.trans (sortI_perm ns).symm)
def oSortI : Sto → List D → Option D := fun S ds => match ds with
  | [d] => ((listOf S d).bind intsOf).map fun ns => .lst ((sortI ns).map D.int)
  | _ => none
section
variable {X : Cx}
theorem cd_sortI : CallD X (.builtin "sorted") oSortI := by
  refine ⟨_, cr_sortedI, fun r t S H ds vs d Q so dv e q => ?_⟩
  unfold oSortI at e
  split at e
  · rename_i d0
    obtain ⟨ns, e1, e2⟩ := Option.map_eq_some_iff.mp e
    subst e2
    obtain ⟨es, e3, e4⟩ := Option.bind_eq_some_iff.mp e1
    cases dv with
    | cons d1 d2 =>
      cases d2
      obtain ⟨a, xs, ev, hs, z⟩ := list_ok so d1 e3
      rw [ints_eq e4] at z
      rw [z.ints] at hs
      refine ⟨a, ns, by rw [ev], hs, fun ns' p hp1 hp2 hp => ?_⟩
      rw [sortI_only hp1 hp2]
      exact newL so hp (denInts _) q
  · cases e
end
def intsT : D → Option (List Int)
  | .tup ds => intsOf ds
  | _ => none
def intsTL : List D → Option (List (List Int))
  | [] => some []
  | d :: ds => match intsT d, intsTL ds with
    | some n, some ns => some (n :: ns)
    | _, _ => none
def tupI (ns : List Int) : D := .tup (ns.map D.int)
theorem intsTL_eq : ∀ {ds : List D} {nss : List (List Int)}, intsTL ds = some nss → ds = nss.map tupI
  | [], _, h => by cases h; rfl
  | d :: ds, _, h => by
    unfold intsTL at h
    split at h
    · rename_i n ns e1 e2
      cases h
      rw [List.map_cons, ← intsTL_eq e2]
      cases d with
      | tup es => unfold tupI; rw [← ints_eq (show intsOf es = some n from e1)]
      | _ => cases e1
    · cases h
theorem intsOf_map : ∀ ns : List Int, intsOf (ns.map D.int) = some ns
  | [] => rfl
  | n :: ns => by
    rw [List.map_cons]
    unfold intsOf
    rw [intsOf_map ns]
    rfl
theorem intsTL_map : ∀ nss : List (List Int), intsTL (nss.map tupI) = some nss
  | [] => rfl
  | n :: ns => by
    show (match intsT (tupI n), intsTL (ns.map tupI) with | some n, some ns => some (n :: ns) | _, _ => none) = _
    rw [intsTL_map ns, show intsT (tupI n) = some n from intsOf_map n]
/-- tuples of so many small numbers -/
def BB : Int := 2 ^ 64
def okT (d : Nat) (ns : List Int) : Bool := decide (ns.length = d) && ns.all fun m => decide (0 ≤ m) && decide (m < BB)
theorem okT_iff {d : Nat} {ns : List Int} : okT d ns = true ↔ ns.length = d ∧ TS.Bd BB ns := by
  unfold okT TS.Bd
  rw [Bool.and_eq_true, decide_eq_true_eq, List.all_eq_true]
  simp only [Bool.and_eq_true, decide_eq_true_eq]
def sortT (nss : List (List Int)) : List (List Int) := nss.mergeSort fun a b => decide (TS.code BB a ≤ TS.code BB b)
theorem sortT_perm (nss : List (List Int)) : (sortT nss).Perm nss := List.mergeSort_perm ..
theorem sortT_pair (nss : List (List Int)) : (sortT nss).Pairwise fun a b => TS.code BB a ≤ TS.code BB b := by
  have h := List.pairwise_mergeSort (le := fun a b : List Int => decide (TS.code BB a ≤ TS.code BB b)) (fun a b c h1 h2 => by simp only [decide_eq_true_eq] at *; omega) (fun a b => by simp only [Bool.or_eq_true, decide_eq_true_eq]; omega) nss
  exact h.imp fun h => of_decide_eq_true h
theorem code_inj {B : Int} : ∀ {a b : List Int}, a.length = b.length → TS.Bd B a → TS.Bd B b → TS.code B a = TS.code B b → a = b
  | [], [], _, _, _, _ => rfl
  | [], _ :: _, h, _, _, _ => by cases h
  | _ :: _, [], h, _, _, _ => by cases h
  | x :: a, y :: b, h, ha, hb, e => by
    have hl : a.length = b.length := Nat.succ.inj h
    have exy : x = y := by
      rcases Int.lt_trichotomy x y with z | z | z
      · have := TS.code_lt hl ha.tail hb.tail z; omega
      · exact z
      · have := TS.code_lt hl.symm hb.tail ha.tail z; omega
    subst exy
    have e' : x * B ^ a.length + TS.code B a = x * B ^ b.length + TS.code B b := e
    rw [hl] at e'
    rw [code_inj hl ha.tail hb.tail (by omega)]
theorem sortT_only {d : Nat} {nss nss' : List (List Int)} (hd : ∀ a ∈ nss, okT d a = true) (h : nss'.Perm nss) (hp : nss'.Pairwise fun a b => TS.code BB a ≤ TS.code BB b) : nss' = sortT nss := by
  refine List.Perm.eq_of_pairwise (fun a b ha hb h1 h2 => ?_) hp (sortT_pair nss) (h.trans (sortT_perm nss).symm)
  obtain ⟨a1, a2⟩ := okT_iff.mp (hd a (h.mem_iff.mp ha))
  obtain ⟨b1, b2⟩ := okT_iff.mp (hd b ((sortT_perm nss).mem_iff.mp hb))
  exact code_inj (a1.trans b1.symm) a2 b2 (by omega)
def oSortT : Sto → List D → Option D := fun S ds => match ds with
  | [d] => ((listOf S d).bind intsTL).bind fun nss => if nss.length < 64 ∧ ((nss.headD []).length ≠ 0 ∧ nss.all (okT (nss.headD []).length) = true ∨ nss = []) then some (.lst ((sortT nss).map tupI)) else none
  | _ => none
/-- items that mean the same things, in another order -/
theorem perm_den {K : PySem.W.Frag} {H : Hp} {r t : List Addr} {xs ys : List V} (h : ys.Perm xs) : ∀ {ds : List D}, DenL K H r t xs ds → ∃ es, es.Perm ds ∧ DenL K H r t ys es := by
  induction h with
  | nil => intro ds z; exact ⟨_, .refl _, z⟩
  | cons x h ih => intro ds z; cases z with | cons a b => obtain ⟨es, p, q⟩ := ih b; exact ⟨_, p.cons _, .cons a q⟩
  | swap x y l => intro ds z; cases z with | cons a b => cases b with | cons b c => exact ⟨_, List.Perm.swap _ _ _, .cons b (.cons a c)⟩
  | trans h1 h2 ih1 ih2 => intro ds z; obtain ⟨es, p, q⟩ := ih2 z; obtain ⟨fs, p2, q2⟩ := ih1 q; exact ⟨fs, p2.trans p, q2⟩
theorem perm_tup {es : List D} {nss : List (List Int)} (h : es.Perm (nss.map tupI)) : ∃ nss' : List (List Int), es = nss'.map tupI ∧ nss'.Perm nss := by
  generalize hb : nss.map tupI = bs at h
  induction h generalizing nss with
  | nil =>
    cases nss with
    | nil => exact ⟨[], rfl, .refl _⟩
    | cons _ _ => cases hb
  | cons x h ih =>
    cases nss with
    | nil => cases hb
    | cons n ns =>
      cases hb
      obtain ⟨ms, e, p⟩ := ih rfl
      exact ⟨n :: ms, by rw [List.map_cons, e], p.cons _⟩
  | swap x y l =>
    match nss, hb with
    | a :: b :: ns, hb => cases hb; exact ⟨b :: a :: ns, rfl, List.Perm.swap _ _ _⟩
  | trans h1 h2 ih1 ih2 =>
    obtain ⟨ms, e, p⟩ := ih2 hb
    obtain ⟨ks, e2, p2⟩ := ih1 e.symm
    exact ⟨ks, e2, p2.trans p⟩
section
variable {X : Cx}
theorem cr_sortTs : CallR X (.builtin "sorted") (fun vs H Q => ∃ d : Nat, 1 ≤ d ∧ rSortU X.K d BB vs H Q) := by
  intro pins s σ H vs us Q I r h
  obtain ⟨d, hd, q⟩ := h
  exact cr_sortT hd pins s σ H vs us Q I r q
theorem denT_ints {K : PySem.W.Frag} {H : Hp} {r t : List Addr} {v : V} {ns : List Int} (dv : Den K H r t v (tupI ns)) : TupI K H v ns := by
  unfold tupI at dv
  cases dv with
  | tup h1 z =>
    rw [z.ints] at h1
    exact ⟨_, rfl, sqT_of h1⟩
theorem denL_mem {K : PySem.W.Frag} {H : Hp} {r t : List Addr} {vs : List V} {ds : List D} {v : V} (z : DenL K H r t vs ds) (h : v ∈ vs) : ∃ d ∈ ds, Den K H r t v d := by
  obtain ⟨i, hi⟩ := List.getElem?_of_mem h
  obtain ⟨d, h1, h2⟩ := z.getV hi
  exact ⟨d, List.mem_of_getElem? h1, h2⟩
theorem denT_pair {K : PySem.W.Frag} {H : Hp} {r t : List Addr} : ∀ {vs : List V} {nss : List (List Int)}, DenL K H r t vs (nss.map tupI) → vs.Pairwise (fun x y => ∀ n m, TupI K H x n → TupI K H y m → TS.code BB n ≤ TS.code BB m) → nss.Pairwise fun a b => TS.code BB a ≤ TS.code BB b
  | [], [], _, _ => .nil
  | v :: vs, n :: nss, .cons h1 h2, .cons k1 k2 => by
    refine .cons (fun m hm => ?_) (denT_pair h2 k2)
    obtain ⟨i, hi⟩ := List.getElem?_of_mem hm
    obtain ⟨u, hu, du⟩ := h2.get (i := i) (d := tupI m) (by rw [List.getElem?_map, hi]; rfl)
    exact k1 u (List.mem_of_getElem? hu) n m (denT_ints h1) (denT_ints du)
theorem cd_sortT : CallD X (.builtin "sorted") oSortT := by
  refine ⟨_, cr_sortTs, fun r t S H ds vs d Q so dv e q => ?_⟩
  unfold oSortT at e
  split at e
  · rename_i d0
    obtain ⟨nss, e1, e2⟩ := Option.bind_eq_some_iff.mp e
    obtain ⟨es, e3, e4⟩ := Option.bind_eq_some_iff.mp e1
    split at e2
    · rename_i hc
      cases e2
      cases dv with
      | cons d1 d2 =>
        cases d2
        obtain ⟨a, xs, ev, hs, z⟩ := list_ok so d1 e3
        rw [intsTL_eq e4] at z
        have hl : xs.length = nss.length := by rw [z.length, List.length_map]
        obtain ⟨dd, hd1, hd⟩ : ∃ dd : Nat, 1 ≤ dd ∧ ∀ a ∈ nss, okT dd a = true := by
          rcases hc.2 with h | h
          · exact ⟨(nss.headD []).length, Nat.pos_of_ne_zero h.1, fun a ha => List.all_eq_true.mp h.2 a ha⟩
          · rw [h]; exact ⟨1, Nat.le_refl _, fun a ha => by cases ha⟩
        refine ⟨dd, hd1, a, xs, by rw [ev], hs, by rw [hl]; exact hc.1, fun x hx => ?_, fun ys p hp1 hp2 hp => ?_⟩
        · obtain ⟨d2, hd2, dx⟩ := denL_mem z hx
          obtain ⟨n, hn, en⟩ := List.mem_map.mp hd2
          subst en
          obtain ⟨h1, h2⟩ := okT_iff.mp (hd n hn)
          exact ⟨n, denT_ints dx, h1, h2⟩
        · obtain ⟨fs, hf, zf⟩ := perm_den hp1 z
          obtain ⟨nss', ef, hp3⟩ := perm_tup hf
          subst ef
          rw [sortT_only hd hp3 (denT_pair zf hp2)] at zf
          exact newL so hp zf q
    · cases e2
  · cases e
def oSorted : Sto → List D → Option D := orC oSortI oSortT
theorem cd_sorted : CallD X (.builtin "sorted") oSorted := cd_sortI.or cd_sortT
end

/-! ### new lists that will be changed -/
structure CallN (X : Cx) (f : Value) (o : Sto → List D → Option (List D)) : Prop where
  ex : ∃ rr : List V → Hp → VK → Prop, CallR X f rr ∧ ∀ r t S H ds vs es (Q : VK), SOk X.K X.mg H r t S → DenL X.K H r t vs ds → o S ds = some es →
    (∀ p xs, H p = none → DenL X.K H r t xs es → Q (.ref p) (upd H p (.lst xs))) → rr vs H Q
def dCallN (o : Sto → List D → Option (List D)) (fs : DA) : DE := fun env S => (fs env S).bind fun ds S1 => match o S1 ds with
  | some es => .ok (.ref S1.length) (S1 ++ [.lst es])
  | none => .bad
section
variable {X : Cx} {W : WX} {e : Expr} {es : List Expr} {fs : DA} {pos : Pos}
theorem de_callTyN {T : String} {x : Str} {p : Pos} {o : Sto → List D → Option (List D)} (hc : CallN X (.type T) o) (hg : Gl X x) (hm : X.mg x = none) (hv : bootBuiltins x = some (.type T)) (ha : PA X (e :: es) (tA X W fs)) (hn : x ≠ "__name__" := by decide) (hdb : (x == ("__debug__" : Str)) = false := by decide)
    (he : starEach (e :: es) X.env = (false, eval e X.env) :: starEach es X.env := by rfl) (hpl : (backTo pos (starEach es X.env)).any (·.1) = false := by rfl) : PE X (.Call (.Name x p) (e :: es) [] pos) (tE X W (dCallN o fs)) := by
  obtain ⟨rr, h, k⟩ := hc
  refine PE.imp (pe_callTy h hg hm hv ha hn hdb he hpl) fun σ H Q q => ?_
  obtain ⟨r, t, S, env, rel, g⟩ := q
  refine ⟨r, t, S, env, rel, g.bind.mono fun ds S1 r1 H1 ex so g1 vs dvs => ?_⟩
  split at g1
  · rename_i es1 e1
    refine k r1 t S1 H1 ds vs es1 Q so dvs e1 fun p xs hp z => ?_
    obtain ⟨so2, d2⟩ := growL so hp z
    exact g1 _ _ (Ext.grow hp) so2 _ d2
  · exact (show False from g1).elim
def oListN : Sto → List D → Option (List D) := fun S ds => match ds with
  | [d] => seqOf S d
  | _ => none
theorem cn_list : CallN X (.type "list") oListN := by
  refine ⟨_, call_list_of, fun r t S H ds vs es Q so dv e q => ?_⟩
  unfold oListN at e
  split at e
  · cases dv with
    | cons d1 d2 =>
      cases d2
      obtain ⟨a, xs, ev, hs, z⟩ := seq_ok so d1 e
      exact ⟨a, xs, by rw [ev], hs, fun l hl => q l xs hl z⟩
  · cases e
/-- xs + ys -/
def dAddN (fa fb : DE) : DE := fun env S => (fa env S).bind fun x S1 => (fb env S1).bind fun y S2 => match lstOf S2 x, lstOf S2 y with
  | some a, some b => if a.length + b.length ≤ sizeLine then .ok (.ref S2.length) (S2 ++ [.lst (a ++ b)]) else .bad
  | _, _ => .bad
theorem de_addN {a b : Expr} {fa fb : DE} (ha : PE X a (tE X W fa)) (hb : PE X b (tE X W fb)) : PE X (.BinOp a .Add b pos) (tE X W (dAddN fa fb)) := by
  refine PE.imp (pe_op op_cat ha hb) fun σ H Q q => tE_two q fun r t S env x y v u H' rel dx dy g => ?_
  split at g
  · rename_i as bs ea eb
    obtain ⟨p, xs, rfl, h1, z1⟩ := lst_ok rel.so dx ea
    obtain ⟨p2, ys, rfl, h2, z2⟩ := lst_ok rel.so dy eb
    obtain ⟨hl, g2⟩ := g.ite
    refine ⟨p, p2, xs, ys, rfl, rfl, h1, h2, by rw [z1.length, z2.length]; exact hl, fun n hn => ?_⟩
    obtain ⟨so2, d2⟩ := growL rel.so hn (z1.append z2)
    exact g2 _ _ (Ext.grow hn) so2 _ d2
  · exact (show False from g).elim
end
end DL
end L2

set_option Elab.async false
set_option linter.all false
set_option maxRecDepth 100000
namespace L2
namespace DL
open PySem PySem.Spec PyProof.Rows

/-! ### what an outcome comes to, by what is wanted of it -/
structure Wp {A : Type} (m : Out A) (P : A → Sto → Prop) : Prop where
  get : ∃ a S, m = .ok a S ∧ P a S
section
variable {A B : Type} {m : Out A} {P Q : A → Sto → Prop} {S : Sto}
theorem wp_ok (a : A) (S : Sto) (P : A → Sto → Prop) : Wp (.ok a S) P = P a S := propext ⟨fun h => by obtain ⟨b, T, e, p⟩ := h.get; cases e; exact p, fun p => ⟨a, S, rfl, p⟩⟩
theorem wp_no {m : Out A} {P : A → Sto → Prop} (h : ∀ a S, m ≠ .ok a S) : Wp m P = False := propext ⟨fun w => by obtain ⟨a, S, e, _⟩ := w.get; exact h a S e, fun f => f.elim⟩
theorem wp_bind (m : Out A) (k : A → Sto → Out B) (P : B → Sto → Prop) : Wp (m.bind k) P = Wp m fun a S => Wp (k a S) P := by
  cases m with
  | ok a S => rw [Out.bind_ok, wp_ok]
  | exc c S => rw [wp_no (by intro a S h; cases h), wp_no (by intro a S h; cases h)]
  | bad => rw [wp_no (by intro a S h; cases h), wp_no (by intro a S h; cases h)]
theorem wp_noexc (m : Out A) (P : A → Sto → Prop) : Wp (noexc m) P = Wp m P := by
  cases m with
  | ok a S => rfl
  | exc c S => rw [wp_no (by intro a S h; cases h), wp_no (by intro a S h; cases h)]
  | bad => rfl
theorem Wp.mono (h : Wp m P) (k : ∀ a S, P a S → Q a S) : Wp m Q := by
  obtain ⟨a, S, e, p⟩ := h.get
  exact ⟨a, S, e, k a S p⟩
theorem Wp.of {a : A} (h : m = .ok a S) (p : P a S) : Wp m P := ⟨a, S, h, p⟩
theorem wp_lift {o : Option A} {a : A} (h : o = some a) (p : P a S) : Wp (lift o S) P := ⟨a, S, by rw [h]; rfl, p⟩
theorem wp_if {c : Prop} [Decidable c] {x y : Out A} (h1 : c → Wp x P) (h2 : ¬ c → Wp y P) : Wp (if c then x else y) P := by
  by_cases h : c
  · rw [if_pos h]; exact h1 h
  · rw [if_neg h]; exact h2 h
theorem wp_dec {c : Prop} [Decidable c] {x y : Out A} (h1 : c → Wp x P) (h2 : ¬ c → Wp y P) : Wp (if decide c = true then x else y) P := by
  by_cases h : c
  · rw [if_pos (decide_eq_true h)]; exact h1 h
  · rw [if_neg (by rw [decide_eq_false h]; exact Bool.false_ne_true)]; exact h2 h
theorem wp_ndec {c : Prop} [Decidable c] {x y : Out A} (h1 : ¬ c → Wp x P) (h2 : c → Wp y P) : Wp (if (!decide c) = true then x else y) P := by
  by_cases h : c
  · rw [if_neg (by rw [decide_eq_true h]; exact Bool.false_ne_true)]; exact h2 h
  · rw [if_pos (by rw [decide_eq_false h]; rfl)]; exact h1 h
end
/-- a comprehension, item by item -/
theorem compGo_wp {g : DG} {env : Ev} {tt : DB} {te : DE} {P : List D → Sto → Prop} (I : List D → List D → Sto → Prop) : ∀ (ds acc : List D) (S : Sto), I ds acc S →
    (∀ d rest acc S, I (d :: rest) acc S → ∃ env', g env d = some env' ∧ Wp (tt env' S) fun b S1 => if b = true then Wp (te env' S1) fun y S2 => acc.length < sizeLine ∧ I rest (acc ++ [y]) S2 else I rest acc S1) →
    (∀ acc S, I [] acc S → P acc S) → Wp (compGo g env tt te ds acc S) P
  | [], acc, S, h, _, hf => Wp.of rfl (hf acc S h)
  | d :: ds, acc, S, h, hs, hf => by
    obtain ⟨env', e1, w⟩ := hs d ds acc S h
    unfold compGo
    rw [e1]
    dsimp only
    rw [wp_bind, wp_noexc]
    refine w.mono fun b S1 q => ?_
    cases b with
    | false => exact compGo_wp I ds acc S1 q hs hf
    | true =>
      rw [if_pos rfl, wp_bind, wp_noexc]
      refine Wp.mono (if_pos rfl ▸ q) fun y S2 q2 => ?_
      rw [if_pos q2.1]
      exact compGo_wp I ds (acc ++ [y]) S2 q2.2 hs hf
/-- .. each item to one that stands so to it -/
inductive All2 {A B : Type} (R : A → B → Prop) : List A → List B → Prop
  | nil : All2 R [] []
  | cons {a : A} {b : B} {as : List A} {bs : List B} : R a b → All2 R as bs → All2 R (a :: as) (b :: bs)
theorem All2.length {A B : Type} {R : A → B → Prop} : ∀ {as : List A} {bs : List B}, All2 R as bs → as.length = bs.length
  | _, _, .nil => rfl
  | _, _, .cons _ h => congrArg Nat.succ h.length
theorem All2.snoc {A B : Type} {R : A → B → Prop} {a : A} {b : B} (h : R a b) : ∀ {as : List A} {bs : List B}, All2 R as bs → All2 R (as ++ [a]) (bs ++ [b])
  | _, _, .nil => .cons h .nil
  | _, _, .cons h1 h2 => .cons h1 (h2.snoc h)
theorem All2.mono {A B : Type} {R R' : A → B → Prop} (k : ∀ a b, R a b → R' a b) : ∀ {as : List A} {bs : List B}, All2 R as bs → All2 R' as bs
  | _, _, .nil => .nil
  | _, _, .cons h1 h2 => .cons (k _ _ h1) (h2.mono k)
theorem All2.right {A B : Type} {R : A → B → Prop} {p : B → Prop} (k : ∀ a b, R a b → p b) : ∀ {as : List A} {bs : List B}, All2 R as bs → ∀ b ∈ bs, p b
  | _, _, .nil, _, h => by cases h
  | _, _, .cons h1 h2, b, h => by
    rcases List.mem_cons.mp h with e | e
    · rw [e]; exact k _ _ h1
    · exact h2.right k b e
theorem compGo_each {g : DG} {env : Ev} {te : DE} {P : List D → Sto → Prop} (I : Sto → Prop) (R : D → D → Prop) {ds : List D} {S : Sto} (hI : I S) (hl : ds.length ≤ sizeLine)
    (hs : ∀ d ∈ ds, ∀ S, I S → ∃ env', g env d = some env' ∧ Wp (te env' S) fun y S' => I S' ∧ R d y) (hf : ∀ ys S', All2 R ds ys → I S' → P ys S') : Wp (compGo g env bYes te ds [] S) P := by
  refine compGo_wp (fun rest acc S => ∃ done, ds = done ++ rest ∧ All2 R done acc ∧ I S) ds [] S ⟨[], rfl, .nil, hI⟩ (fun d rest acc S h => ?_) fun acc S h => ?_
  · obtain ⟨done, e, a, i⟩ := h
    obtain ⟨env', e1, w⟩ := hs d (by rw [e]; exact List.mem_append_right _ List.mem_cons_self) S i
    refine ⟨env', e1, ?_⟩
    show Wp (Out.ok true S) _
    rw [wp_ok, if_pos rfl]
    refine w.mono fun y S' q => ⟨?_, done ++ [d], by rw [e, List.append_assoc]; rfl, a.snoc q.2, q.1⟩
    rw [e, List.length_append, List.length_cons, a.length] at hl
    omega
  · obtain ⟨done, e, a, i⟩ := h
    rw [List.append_nil] at e
    subst e
    exact hf acc S a i
/-- a pure one with a test -/
theorem compGo_filter {g : DG} {env : Ev} {tt : DB} {te : DE} {P : List D → Sto → Prop} (p : D → Bool) (f : D → D) {ds : List D} {S : Sto} (hl : ds.length ≤ sizeLine)
    (hs : ∀ d ∈ ds, ∃ env', g env d = some env' ∧ Wp (tt env' S) (fun b S' => S' = S ∧ b = p d) ∧ (p d = true → Wp (te env' S) fun y S' => S' = S ∧ y = f d)) (hf : P ((ds.filter p).map f) S) : Wp (compGo g env tt te ds [] S) P := by
  refine compGo_wp (fun rest acc S' => ∃ done, ds = done ++ rest ∧ S' = S ∧ acc = (done.filter p).map f) ds [] S ⟨[], rfl, rfl, rfl⟩ (fun d rest acc S' h => ?_) fun acc S' h => ?_
  · obtain ⟨done, e, eS, a⟩ := h
    subst eS
    obtain ⟨env', e1, w, w2⟩ := hs d (by rw [e]; exact List.mem_append_right _ List.mem_cons_self)
    refine ⟨env', e1, w.mono fun b S1 q => ?_⟩
    obtain ⟨eS, eb⟩ := q
    subst eS
    cases hb : p d with
    | true =>
      rw [eb, hb, if_pos rfl]
      refine (w2 hb).mono fun y S2 q2 => ⟨?_, done ++ [d], by rw [e, List.append_assoc]; rfl, q2.1, ?_⟩
      · rw [e, List.length_append, List.length_cons] at hl
        have := List.length_filter_le p done
        rw [a, List.length_map]
        omega
      · rw [q2.2, a, List.filter_append, List.map_append, List.filter_cons, if_pos hb]; rfl
    | false =>
      rw [eb, hb, if_neg Bool.false_ne_true]
      refine ⟨done ++ [d], by rw [e, List.append_assoc]; rfl, rfl, ?_⟩
      rw [a, List.filter_append, List.map_append, List.filter_cons, if_neg (by rw [hb]; exact Bool.false_ne_true)]
      simp
  · obtain ⟨done, e, eS, a⟩ := h
    rw [List.append_nil] at e
    subst e eS a
    exact hf
theorem compGo_pure {g : DG} {env : Ev} {te : DE} {P : List D → Sto → Prop} (f : D → D) {ds : List D} {S : Sto} (hl : ds.length ≤ sizeLine)
    (hs : ∀ d ∈ ds, ∃ env', g env d = some env' ∧ Wp (te env' S) fun y S' => S' = S ∧ y = f d) (hf : P (ds.map f) S) : Wp (compGo g env bYes te ds [] S) P := by
  refine compGo_filter (fun _ => true) f hl (fun d hd => ?_) ?_
  · obtain ⟨env', e1, w⟩ := hs d hd
    exact ⟨env', e1, Wp.of rfl ⟨rfl, rfl⟩, fun _ => w⟩
  · rw [List.filter_eq_self.mpr (fun _ _ => rfl)]
    exact hf
/-- a loop, by what stands ahead of each turn -/
theorem forGo_wp {g : DG} {b : DS} {P : Fl × Ev → Sto → Prop} (I : List D → Ev → Sto → Prop) : ∀ (ds : List D) (env : Ev) (S : Sto), I ds env S →
    (∀ d rest env S, I (d :: rest) env S → ∃ env1, g env d = some env1 ∧ Wp (b env1 S) fun p S' => match p.1 with | .nx => I rest p.2 S' | .ct => I rest p.2 S' | .bk => P (.nx, p.2) S' | .rt v => P (.rt v, p.2) S') →
    (∀ env S, I [] env S → P (.nx, env) S) → Wp (forGo g b ds env S) P
  | [], env, S, h, _, hf => Wp.of rfl (hf env S h)
  | d :: ds, env, S, h, hs, hf => by
    obtain ⟨env1, e1, w⟩ := hs d ds env S h
    unfold forGo
    rw [e1]
    dsimp only
    rw [wp_bind]
    refine w.mono fun p S' q => ?_
    obtain ⟨fl, env2⟩ := p
    cases fl with
    | nx => exact forGo_wp I ds env2 S' q hs hf
    | ct => exact forGo_wp I ds env2 S' q hs hf
    | bk => exact Wp.of rfl q
    | rt v => exact Wp.of rfl q
/-- .. as above, the items known each by itself -/
theorem forGo_all {g : DG} {b : DS} {P : Fl × Ev → Sto → Prop} (I : Ev → Sto → Prop) {ds : List D} {env : Ev} {S : Sto} (h : I env S)
    (hs : ∀ d ∈ ds, ∀ env S, I env S → ∃ env1, g env d = some env1 ∧ Wp (b env1 S) fun p S' => match p.1 with | .nx => I p.2 S' | .ct => I p.2 S' | .bk => P (.nx, p.2) S' | .rt v => P (.rt v, p.2) S')
    (hf : ∀ env S, I env S → P (.nx, env) S) : Wp (forGo g b ds env S) P := by
  refine forGo_wp (fun rest env S => (∃ done, ds = done ++ rest) ∧ I env S) ds env S ⟨⟨[], rfl⟩, h⟩ (fun d rest env S q => ?_) fun env S q => hf env S q.2
  obtain ⟨⟨done, e⟩, i⟩ := q
  obtain ⟨env1, e1, w⟩ := hs d (by rw [e]; exact List.mem_append_right _ List.mem_cons_self) env S i
  refine ⟨env1, e1, w.mono fun p S' z => ?_⟩
  have nx : ∃ done, ds = done ++ rest := ⟨done ++ [d], by rw [e, List.append_assoc]; rfl⟩
  obtain ⟨fl, env2⟩ := p
  cases fl with
  | nx => exact ⟨nx, z⟩
  | ct => exact ⟨nx, z⟩
  | bk => exact z
  | rt v => exact z
/-- while, by what falls -/
theorem whGo_wp {c : DB} {b : DS} {P : Fl × Ev → Sto → Prop} (I : Nat → Ev → Sto → Prop) : ∀ (n m : Nat) (env : Ev) (S : Sto), m < n → I m env S →
    (∀ m env S, I m env S → Wp (c env S) fun k S1 => if k = true then Wp (b env S1) fun p S' => match p.1 with | .nx => ∃ j, j < m ∧ I j p.2 S' | .ct => ∃ j, j < m ∧ I j p.2 S' | .bk => P (.nx, p.2) S' | .rt v => P (.rt v, p.2) S' else P (.nx, env) S1) →
    Wp (whGo c b n env S) P
  | 0, m, env, S, hl, _, _ => by omega
  | n + 1, m, env, S, hl, h, hs => by
    unfold whGo
    rw [wp_bind]
    refine (hs m env S h).mono fun k S1 q => ?_
    cases k with
    | false => exact Wp.of rfl q
    | true =>
      rw [if_pos rfl] at q ⊢
      rw [wp_bind]
      refine q.mono fun p S' z => ?_
      obtain ⟨fl, env2⟩ := p
      cases fl with
      | nx => obtain ⟨j, hj, i⟩ := z; exact whGo_wp I n j env2 S' (by omega) i hs
      | ct => obtain ⟨j, hj, i⟩ := z; exact whGo_wp I n j env2 S' (by omega) i hs
      | bk => exact Wp.of rfl z
      | rt v => exact Wp.of rfl z
theorem wp_append {fo fa : DE} {env : Ev} {S S1 : Sto} {n : Nat} {ds : List D} {P : D → Sto → Prop} (h1 : fo env S = .ok (.ref n) S1) (hl : S1[n]? = some (.lst ds)) (h2 : Wp (fa env S1) fun y S2 => ∃ es, S2[n]? = some (.lst es) ∧ es.length < sizeLine ∧ P .non (S2.set n (.lst (es ++ [y])))) : Wp (dAppend fo fa env S) P := by
  obtain ⟨y, S2, e, es, k1, k2, k3⟩ := h2.get
  exact Wp.of (append_ref h1 hl e k1 k2) k3

/-! ### step by step: what is wanted behind each step, without a binder in sight -/
section
variable {A B : Type} {X : Cx} {W : WX} {env : Ev} {S : Sto} {x y d : D} {ds : List D} {P : D → Sto → Prop} {PB : Bool → Sto → Prop} {PA : List D → Sto → Prop} {PF : Fl × Ev → Sto → Prop} {PO : Option Int → Sto → Prop} {fa fb fc fe fo fi : DE} {ta tb tc tt : DB} {fs : DA} {f g b : DS} {gg : DG} {it : DI} {fl : Fl} {i n : Nat}
theorem wps {A : Type} (a : A) (S : Sto) (Q : A → Sto → Prop) : Wp (lift (some a) S) Q = Q a S := by first | rfl | exact wp_ok _ _ _
theorem w_C : Wp (dC d env S) P = P d S := by first | rfl | exact wp_ok _ _ _
def kVar (o : Option (Option D)) (P : D → Sto → Prop) (S : Sto) : Prop := match o with | some (some d) => P d S | _ => False
theorem w_Var : Wp (dVar i env S) P = kVar env[i]? P S := by
  unfold dVar kVar
  cases env[i]? with
  | none => exact wp_no (by intro a S h; cases h)
  | some o =>
    cases o with
    | none => exact wp_no (by intro a S h; cases h)
    | some d => exact wp_ok _ _ _
theorem k_Var : kVar (some (some d)) P S = P d S := by first | rfl | exact wp_ok _ _ _
def kBin1 (o : Sto → D → D → Option D) (fb : DE) (env : Ev) (P : D → Sto → Prop) (x : D) (S : Sto) : Prop := Wp (fb env S) fun y S2 => Wp (lift (o S2 x y) S2) P
def kBin2 (o : Sto → D → D → Option D) (P : D → Sto → Prop) (x y : D) (S : Sto) : Prop := Wp (lift (o S x y) S) P
theorem w_Bin {o} : Wp (dBin o fa fb env S) P = Wp (fa env S) (kBin1 o fb env P) := by unfold dBin; simp only [wp_bind, wp_ok]; rfl
theorem k_Bin1 {o} : kBin1 o fb env P x S = Wp (fb env S) (kBin2 o P x) := by first | rfl | exact wp_ok _ _ _
theorem k_Bin2 {o} : kBin2 o P x y S = Wp (lift (o S x y) S) P := by first | rfl | exact wp_ok _ _ _
def kB (PB : Bool → Sto → Prop) (x : D) (S : Sto) : Prop := Wp (lift (asB x) S) PB
theorem k_B {c : Bool} : kB PB (.bl c) S = PB c S := by first | rfl | exact wp_ok _ _ _
theorem w_Tst : Wp (dTst fa env S) PB = Wp (fa env S) (kB PB) := by unfold dTst; simp only [wp_bind, wp_ok]; rfl
def kCh1 (o o' : Sto → D → D → Option D) (fb fc : DE) (env : Ev) (P : D → Sto → Prop) (x : D) (S : Sto) : Prop := Wp (fb env S) fun y S2 => Wp (lift (o S2 x y) S2) fun z S3 => Wp (lift (asB z) S3) fun k S4 => Wp (if k = true then (fc env S4).bind fun w S5 => lift (o' S5 y w) S5 else .ok (.bl false) S4) P
def kCh2 (o o' : Sto → D → D → Option D) (fc : DE) (env : Ev) (P : D → Sto → Prop) (x y : D) (S : Sto) : Prop := Wp (lift (o S x y) S) fun z S3 => Wp (lift (asB z) S3) fun k S4 => Wp (if k = true then (fc env S4).bind fun w S5 => lift (o' S5 y w) S5 else .ok (.bl false) S4) P
def kCh3 (o' : Sto → D → D → Option D) (fc : DE) (env : Ev) (P : D → Sto → Prop) (y : D) (k : Bool) (S : Sto) : Prop := Wp (if k = true then (fc env S).bind fun w S5 => lift (o' S5 y w) S5 else .ok (.bl false) S) P
def kCh4 (o' : Sto → D → D → Option D) (P : D → Sto → Prop) (y w : D) (S : Sto) : Prop := Wp (lift (o' S y w) S) P
theorem w_Chain {o o'} : Wp (dChain o o' fa fb fc env S) P = Wp (fa env S) (kCh1 o o' fb fc env P) := by unfold dChain; simp only [wp_bind, wp_ok]; rfl
theorem k_Ch1 {o o'} : kCh1 o o' fb fc env P x S = Wp (fb env S) (kCh2 o o' fc env P x) := by first | rfl | exact wp_ok _ _ _
theorem k_Ch2 {o o'} : kCh2 o o' fc env P x y S = Wp (lift (o S x y) S) (kB (kCh3 o' fc env P y)) := by first | rfl | exact wp_ok _ _ _
theorem k_Ch3t {o'} : kCh3 o' fc env P y true S = Wp (fc env S) (kCh4 o' P y) := by unfold kCh3; rw [if_pos rfl, wp_bind]; rfl
theorem k_Ch3f {o'} : kCh3 o' fc env P y false S = P (.bl false) S := by first | rfl | exact wp_ok _ _ _
theorem k_Ch3d {o'} {c : Prop} [Decidable c] (h1 : c → Wp (fc env S) (kCh4 o' P y)) (h2 : ¬ c → P (.bl false) S) : kCh3 o' fc env P y (decide c) S := by
  by_cases h : c
  · rw [decide_eq_true h, k_Ch3t]; exact h1 h
  · rw [decide_eq_false h, k_Ch3f]; exact h2 h
theorem k_Ch4 {o'} {w : D} : kCh4 o' P y w S = Wp (lift (o' S y w) S) P := by first | rfl | exact wp_ok _ _ _
def kAnd (fb : DE) (env : Ev) (P : D → Sto → Prop) (k : Bool) (S : Sto) : Prop := Wp (if k = true then fb env S else .ok (.bl false) S) P
def kOr (fb : DE) (env : Ev) (P : D → Sto → Prop) (k : Bool) (S : Sto) : Prop := Wp (if k = true then .ok (.bl true) S else fb env S) P
def kNot (P : D → Sto → Prop) (k : Bool) (S : Sto) : Prop := P (.bl (!k)) S
theorem w_And : Wp (dAnd fa fb env S) P = Wp (fa env S) (kB (kAnd fb env P)) := by unfold dAnd; simp only [wp_bind, wp_ok]; rfl
theorem w_Or : Wp (dOr fa fb env S) P = Wp (fa env S) (kB (kOr fb env P)) := by unfold dOr; simp only [wp_bind, wp_ok]; rfl
theorem w_Not : Wp (dNot fa env S) P = Wp (fa env S) (kB (kNot P)) := by unfold dNot; simp only [wp_bind, wp_ok]; rfl
theorem k_Andt : kAnd fb env P true S = Wp (fb env S) P := by first | rfl | exact wp_ok _ _ _
theorem k_Andf : kAnd fb env P false S = P (.bl false) S := by first | rfl | exact wp_ok _ _ _
theorem k_Ort : kOr fb env P true S = P (.bl true) S := by first | rfl | exact wp_ok _ _ _
theorem k_Orf : kOr fb env P false S = Wp (fb env S) P := by first | rfl | exact wp_ok _ _ _
theorem k_Not {c : Bool} : kNot P c S = P (.bl (!c)) S := by first | rfl | exact wp_ok _ _ _
theorem k_Andc {c : Bool} (h1 : c = true → Wp (fb env S) P) (h2 : c = false → P (.bl false) S) : kAnd fb env P c S := by
  cases c with
  | true => exact h1 rfl
  | false => exact Wp.of rfl (h2 rfl)
theorem k_Orc {c : Bool} (h1 : c = true → P (.bl true) S) (h2 : c = false → Wp (fb env S) P) : kOr fb env P c S := by
  cases c with
  | true => exact Wp.of rfl (h1 rfl)
  | false => exact h2 rfl
def kbAnd (tb : DB) (env : Ev) (P : Bool → Sto → Prop) (k : Bool) (S : Sto) : Prop := Wp (if k = true then tb env S else .ok false S) P
def kbOr (tb : DB) (env : Ev) (P : Bool → Sto → Prop) (k : Bool) (S : Sto) : Prop := Wp (if k = true then .ok true S else tb env S) P
def kbNot (P : Bool → Sto → Prop) (k : Bool) (S : Sto) : Prop := P (!k) S
theorem w_bAnd : Wp (bAnd ta tb env S) PB = Wp (ta env S) (kbAnd tb env PB) := by unfold bAnd; simp only [wp_bind, wp_ok]; rfl
theorem w_bOr : Wp (bOr ta tb env S) PB = Wp (ta env S) (kbOr tb env PB) := by unfold bOr; simp only [wp_bind, wp_ok]; rfl
theorem w_bNot : Wp (bNot ta env S) PB = Wp (ta env S) (kbNot PB) := by unfold bNot; simp only [wp_bind, wp_ok]; rfl
theorem w_bYes : Wp (bYes env S) PB = PB true S := by first | rfl | exact wp_ok _ _ _
theorem k_bAndt : kbAnd tb env PB true S = Wp (tb env S) PB := by first | rfl | exact wp_ok _ _ _
theorem k_bAndf : kbAnd tb env PB false S = PB false S := by first | rfl | exact wp_ok _ _ _
theorem k_bOrt : kbOr tb env PB true S = PB true S := by first | rfl | exact wp_ok _ _ _
theorem k_bOrf : kbOr tb env PB false S = Wp (tb env S) PB := by first | rfl | exact wp_ok _ _ _
theorem k_bNot {c : Bool} : kbNot PB c S = PB (!c) S := by first | rfl | exact wp_ok _ _ _
theorem k_bAndc {c : Bool} (h1 : c = true → Wp (tb env S) PB) (h2 : c = false → PB false S) : kbAnd tb env PB c S := by
  cases c with
  | true => exact h1 rfl
  | false => exact Wp.of rfl (h2 rfl)
theorem k_bOrc {c : Bool} (h1 : c = true → PB true S) (h2 : c = false → Wp (tb env S) PB) : kbOr tb env PB c S := by
  cases c with
  | true => exact Wp.of rfl (h1 rfl)
  | false => exact h2 rfl
def kdIf (fa fb : DE) (env : Ev) (P : D → Sto → Prop) (k : Bool) (S : Sto) : Prop := Wp (if k = true then fa env S else fb env S) P
theorem w_dIf : Wp (dIf tc fa fb env S) P = Wp (tc env S) (kdIf fa fb env P) := by unfold dIf; simp only [wp_bind, wp_ok]; rfl
theorem k_dIft : kdIf fa fb env P true S = Wp (fa env S) P := by first | rfl | exact wp_ok _ _ _
theorem k_dIff : kdIf fa fb env P false S = Wp (fb env S) P := by first | rfl | exact wp_ok _ _ _
theorem k_dIfc {c : Bool} (h1 : c = true → Wp (fa env S) P) (h2 : c = false → Wp (fb env S) P) : kdIf fa fb env P c S := by
  cases c with
  | true => exact h1 rfl
  | false => exact h2 rfl
theorem w_aNil : Wp (aNil env S) PA = PA [] S := by first | rfl | exact wp_ok _ _ _
def kCons1 (fs : DA) (env : Ev) (P : List D → Sto → Prop) (d : D) (S : Sto) : Prop := Wp (fs env S) fun ds S2 => P (d :: ds) S2
def kCons2 (P : List D → Sto → Prop) (d : D) (ds : List D) (S : Sto) : Prop := P (d :: ds) S
theorem w_aCons : Wp (aCons fa fs env S) PA = Wp (fa env S) (kCons1 fs env PA) := by unfold aCons; simp only [wp_bind, wp_ok]; rfl
theorem k_Cons1 : kCons1 fs env PA d S = Wp (fs env S) (kCons2 PA d) := by first | rfl | exact wp_ok _ _ _
theorem k_Cons2 : kCons2 PA d ds S = PA (d :: ds) S := by first | rfl | exact wp_ok _ _ _
def kTup (P : D → Sto → Prop) (ds : List D) (S : Sto) : Prop := ds.length ≤ sizeLine ∧ P (.tup ds) S
def kLst (P : D → Sto → Prop) (ds : List D) (S : Sto) : Prop := ds.length ≤ sizeLine ∧ P (.lst ds) S
def kCell (P : D → Sto → Prop) (ds : List D) (S : Sto) : Prop := ds.length ≤ sizeLine ∧ P (.ref S.length) (S ++ [.lst ds])
theorem wp_bad {A : Type} {P : A → Sto → Prop} : Wp (.bad : Out A) P = False := wp_no (by intro a S h; cases h)
theorem wp_guard {A : Type} {c : Prop} [Decidable c] {m : Out A} {P : A → Sto → Prop} : Wp (if c then m else .bad) P = (c ∧ Wp m P) := by
  by_cases h : c
  · rw [if_pos h]; exact propext ⟨fun q => ⟨h, q⟩, fun q => q.2⟩
  · rw [if_neg h, wp_bad]; exact propext ⟨fun q => q.elim, fun q => h q.1⟩
theorem w_Tup : Wp (dTup fs env S) P = Wp (fs env S) (kTup P) := by unfold dTup; simp only [wp_bind, wp_guard, wp_ok]; rfl
theorem w_Lst : Wp (dLst fs env S) P = Wp (fs env S) (kLst P) := by unfold dLst; simp only [wp_bind, wp_guard, wp_ok]; rfl
theorem w_Cell : Wp (dCell fs env S) P = Wp (fs env S) (kCell P) := by unfold dCell; simp only [wp_bind, wp_guard, wp_ok]; rfl
theorem k_Tup : kTup P ds S = (ds.length ≤ sizeLine ∧ P (.tup ds) S) := by first | rfl | exact wp_ok _ _ _
theorem k_Lst : kLst P ds S = (ds.length ≤ sizeLine ∧ P (.lst ds) S) := by first | rfl | exact wp_ok _ _ _
theorem k_Cell : kCell P ds S = (ds.length ≤ sizeLine ∧ P (.ref S.length) (S ++ [.lst ds])) := by first | rfl | exact wp_ok _ _ _
def kCall (o : Sto → List D → Option D) (P : D → Sto → Prop) (ds : List D) (S : Sto) : Prop := Wp (lift (o S ds) S) P
theorem w_Call {o} : Wp (dCall o fs env S) P = Wp (fs env S) (kCall o P) := by unfold dCall; simp only [wp_bind, wp_ok]; rfl
theorem k_Call {o} : kCall o P ds S = Wp (lift (o S ds) S) P := by first | rfl | exact wp_ok _ _ _
def kCallF (fn : Fn) (P : D → Sto → Prop) (ds : List D) (S : Sto) : Prop := Wp (fn ds S) P
theorem w_CallF {fn : Fn} : Wp (dCallF fn fs env S) P = Wp (fs env S) (kCallF fn P) := by unfold dCallF; simp only [wp_bind, wp_ok]; rfl
theorem k_CallF {fn : Fn} : kCallF fn P ds S = Wp (fn ds S) P := by first | rfl | exact wp_ok _ _ _
def kCallN (o : Sto → List D → Option (List D)) (P : D → Sto → Prop) (ds : List D) (S : Sto) : Prop := Wp (lift (o S ds) S) fun es S1 => P (.ref S1.length) (S1 ++ [.lst es])
def kNew (P : D → Sto → Prop) (es : List D) (S : Sto) : Prop := P (.ref S.length) (S ++ [.lst es])
theorem w_CallN {o} : Wp (dCallN o fs env S) P = Wp (fs env S) (kCallN o P) := by
  unfold dCallN
  rw [wp_bind]
  congr 1
  funext ds S1
  unfold kCallN
  cases o S1 ds with
  | none => exact (wp_bad).trans (wp_bad).symm
  | some es => exact (wp_ok _ _ _).trans (wp_ok es S1 fun es S1 => P (.ref S1.length) (S1 ++ [.lst es])).symm
theorem k_CallN {o} : kCallN o P ds S = Wp (lift (o S ds) S) (kNew P) := by first | rfl | exact wp_ok _ _ _
theorem k_New : kNew P ds S = P (.ref S.length) (S ++ [.lst ds]) := by first | rfl | exact wp_ok _ _ _
def kAddN1 (fb : DE) (env : Ev) (P : D → Sto → Prop) (x : D) (S : Sto) : Prop := Wp (fb env S) fun y S2 => ∃ a b, lstOf S2 x = some a ∧ lstOf S2 y = some b ∧ a.length + b.length ≤ sizeLine ∧ P (.ref S2.length) (S2 ++ [.lst (a ++ b)])
def kAddN2 (P : D → Sto → Prop) (x y : D) (S : Sto) : Prop := ∃ a b, lstOf S x = some a ∧ lstOf S y = some b ∧ a.length + b.length ≤ sizeLine ∧ P (.ref S.length) (S ++ [.lst (a ++ b)])
theorem w_AddN (h : Wp (fa env S) (kAddN1 fb env P)) : Wp (dAddN fa fb env S) P := by
  unfold dAddN
  rw [wp_bind]
  refine h.mono fun x S1 q => ?_
  rw [wp_bind]
  refine Wp.mono q fun y S2 q => ?_
  obtain ⟨a, b, h1, h2, h3, h4⟩ := q
  rw [h1, h2]
  dsimp only
  rw [if_pos h3]
  exact Wp.of rfl h4
theorem k_AddN1 : kAddN1 fb env P x S = Wp (fb env S) (kAddN2 P x) := by first | rfl | exact wp_ok _ _ _
def kUn (o : D → Option D) (P : D → Sto → Prop) (x : D) (S : Sto) : Prop := Wp (lift (o x) S) P
theorem w_Un {o} : Wp (dUn o fa env S) P = Wp (fa env S) (kUn o P) := by unfold dUn; simp only [wp_bind, wp_ok]; rfl
theorem k_Un {o} : kUn o P x S = Wp (lift (o x) S) P := by first | rfl | exact wp_ok _ _ _
def kSl1 (o : Sto → D → Option Int → Option Int → Option D) (fl fu : DO) (env : Ev) (P : D → Sto → Prop) (x : D) (S : Sto) : Prop := Wp (fl env S) fun l S2 => Wp (fu env S2) fun u S3 => Wp (lift (o S3 x l u) S3) P
def kSl2 (o : Sto → D → Option Int → Option Int → Option D) (fu : DO) (env : Ev) (P : D → Sto → Prop) (x : D) (l : Option Int) (S : Sto) : Prop := Wp (fu env S) fun u S3 => Wp (lift (o S3 x l u) S3) P
def kSl3 (o : Sto → D → Option Int → Option Int → Option D) (P : D → Sto → Prop) (x : D) (l u : Option Int) (S : Sto) : Prop := Wp (lift (o S x l u) S) P
theorem w_Sl {o} {fl fu : DO} : Wp (dSl o fa fl fu env S) P = Wp (fa env S) (kSl1 o fl fu env P) := by unfold dSl; simp only [wp_bind, wp_ok]; rfl
theorem k_Sl1 {o} {fl fu : DO} : kSl1 o fl fu env P x S = Wp (fl env S) (kSl2 o fu env P x) := by first | rfl | exact wp_ok _ _ _
theorem k_Sl2 {o} {fu : DO} {l : Option Int} : kSl2 o fu env P x l S = Wp (fu env S) (kSl3 o P x l) := by first | rfl | exact wp_ok _ _ _
theorem k_Sl3 {o} {l u : Option Int} : kSl3 o P x l u S = Wp (lift (o S x l u) S) P := by first | rfl | exact wp_ok _ _ _
theorem w_No : Wp (oNo env S) PO = PO none S := by first | rfl | exact wp_ok _ _ _
def kSo (P : Option Int → Sto → Prop) (x : D) (S : Sto) : Prop := Wp (lift (asI x) S) fun i S2 => P (some i) S2
theorem w_So : Wp (oSo fa env S) PO = Wp (fa env S) (kSo PO) := by unfold oSo; simp only [wp_bind, wp_ok]; rfl
theorem k_So {j : Int} : kSo PO (.int j) S = PO (some j) S := by first | rfl | exact wp_ok _ _ _
def kItems (P : List D → Sto → Prop) (x : D) (S : Sto) : Prop := Wp (lift (seqItems x) S) P
theorem w_iSeq : Wp (iSeq fa env S) PA = Wp (fa env S) (kItems PA) := by unfold iSeq; simp only [wp_bind, wp_ok]; rfl
theorem k_Items : kItems PA x S = Wp (lift (seqItems x) S) PA := by first | rfl | exact wp_ok _ _ _
def kRng1 (P : List D → Sto → Prop) (ds : List D) (S : Sto) : Prop := Wp (lift (rng1 ds) S) P
def kRng2 (P : List D → Sto → Prop) (ds : List D) (S : Sto) : Prop := Wp (lift (rng2 ds) S) P
theorem w_Range1 : Wp (iRange1 fs env S) PA = Wp (fs env S) (kRng1 PA) := by unfold iRange1; simp only [wp_bind, wp_ok]; rfl
theorem w_Range2 : Wp (iRange2 fs env S) PA = Wp (fs env S) (kRng2 PA) := by unfold iRange2; simp only [wp_bind, wp_ok]; rfl
theorem k_Rng1 : kRng1 PA ds S = Wp (lift (rng1 ds) S) PA := by first | rfl | exact wp_ok _ _ _
theorem k_Rng2 : kRng2 PA ds S = Wp (lift (rng2 ds) S) PA := by first | rfl | exact wp_ok _ _ _
def kEnum (P : List D → Sto → Prop) (x : D) (S : Sto) : Prop := Wp (lift ((itemsOf x).map (enumL 0)) S) P
theorem w_iEnum : Wp (iEnum fa env S) PA = Wp (fa env S) (kEnum PA) := by unfold iEnum; simp only [wp_bind, wp_ok]; rfl
theorem k_Enum : kEnum PA x S = Wp (lift ((itemsOf x).map (enumL 0)) S) PA := by first | rfl | exact wp_ok _ _ _
def kComp (g : DG) (vs : List Nat) (tt : DB) (te : DE) (env : Ev) (P : D → Sto → Prop) (ds : List D) (S : Sto) : Prop := Wp (compGo g (wipeE env vs) tt te ds [] S) fun acc S2 => P (.lst acc) S2
def kAsL (P : D → Sto → Prop) (acc : List D) (S : Sto) : Prop := P (.lst acc) S
theorem w_Comp {vs : List Nat} {te : DE} : Wp (dComp it gg vs tt te env S) P = Wp (it env S) (kComp gg vs tt te env P) := by unfold dComp; simp only [wp_bind, wp_ok]; rfl
theorem k_Comp {vs : List Nat} {te : DE} : kComp gg vs tt te env P ds S = Wp (compGo gg (wipeE env vs) tt te ds [] S) (kAsL P) := by first | rfl | exact wp_ok _ _ _
theorem k_AsL : kAsL P ds S = P (.lst ds) S := by first | rfl | exact wp_ok _ _ _
-- statements
theorem w_Nil : Wp (sNil env S) PF = PF (.nx, env) S := by first | rfl | exact wp_ok _ _ _
theorem w_Nop : Wp (sNop env S) PF = PF (.nx, env) S := by first | rfl | exact wp_ok _ _ _
theorem w_Fl : Wp (sFl fl env S) PF = PF (fl, env) S := by first | rfl | exact wp_ok _ _ _
def kSeq (g : DS) (P : Fl × Ev → Sto → Prop) (p : Fl × Ev) (S : Sto) : Prop := Wp (match p.1 with | .nx => g p.2 S | fl => .ok (fl, p.2) S) P
theorem w_Seq : Wp (sSeq f g env S) PF = Wp (f env S) (kSeq g PF) := by unfold sSeq; simp only [wp_bind, wp_ok]; rfl
theorem k_Seqn : kSeq g PF (.nx, env) S = Wp (g env S) PF := by first | rfl | exact wp_ok _ _ _
theorem k_Seqr : kSeq g PF (.rt d, env) S = PF (.rt d, env) S := by first | rfl | exact wp_ok _ _ _
theorem k_Seqb : kSeq g PF (.bk, env) S = PF (.bk, env) S := by first | rfl | exact wp_ok _ _ _
theorem k_Seqc : kSeq g PF (.ct, env) S = PF (.ct, env) S := by first | rfl | exact wp_ok _ _ _
def kDrop (P : Fl × Ev → Sto → Prop) (env : Ev) (_ : D) (S : Sto) : Prop := P (.nx, env) S
theorem w_Expr : Wp (sExpr fa env S) PF = Wp (fa env S) (kDrop PF env) := by unfold sExpr; simp only [wp_bind, wp_ok]; rfl
theorem k_Drop : kDrop PF env x S = PF (.nx, env) S := by first | rfl | exact wp_ok _ _ _
def kRet (P : Fl × Ev → Sto → Prop) (env : Ev) (d : D) (S : Sto) : Prop := P (.rt d, env) S
theorem w_Ret : Wp (sRet fa env S) PF = Wp (fa env S) (kRet PF env) := by unfold sRet; simp only [wp_bind, wp_ok]; rfl
theorem k_Ret : kRet PF env d S = PF (.rt d, env) S := by first | rfl | exact wp_ok _ _ _
def kSet (i : Nat) (P : Fl × Ev → Sto → Prop) (env : Ev) (d : D) (S : Sto) : Prop := P (.nx, env.set i (some d)) S
theorem w_Set : Wp (sSet i fa env S) PF = Wp (fa env S) (kSet i PF env) := by unfold sSet; simp only [wp_bind, wp_ok]; rfl
theorem k_Set : kSet i PF env d S = PF (.nx, env.set i (some d)) S := by first | rfl | exact wp_ok _ _ _
def kAsg1 (g : DG) (P : Fl × Ev → Sto → Prop) (env : Ev) (d : D) (S : Sto) : Prop := Wp (lift (g env d) S) fun env' S2 => P (.nx, env') S2
def kNx (P : Fl × Ev → Sto → Prop) (env : Ev) (S : Sto) : Prop := P (.nx, env) S
theorem w_Asg : Wp (sAsg fa gg env S) PF = Wp (fa env S) (kAsg1 gg PF env) := by unfold sAsg; simp only [wp_bind, wp_ok]; rfl
theorem k_Asg1 : kAsg1 gg PF env d S = Wp (lift (gg env d) S) (kNx PF) := by first | rfl | exact wp_ok _ _ _
theorem k_Nx : kNx PF env S = PF (.nx, env) S := by first | rfl | exact wp_ok _ _ _
def kIf (f g : DS) (env : Ev) (P : Fl × Ev → Sto → Prop) (k : Bool) (S : Sto) : Prop := Wp (if k = true then f env S else g env S) P
theorem w_If : Wp (sIf tc f g env S) PF = Wp (tc env S) (kIf f g env PF) := by unfold sIf; simp only [wp_bind, wp_ok]; rfl
theorem k_Ift : kIf f g env PF true S = Wp (f env S) PF := by first | rfl | exact wp_ok _ _ _
theorem k_Iff : kIf f g env PF false S = Wp (g env S) PF := by first | rfl | exact wp_ok _ _ _
theorem k_Ifc {c : Bool} (h1 : c = true → Wp (f env S) PF) (h2 : c = false → Wp (g env S) PF) : kIf f g env PF c S := by
  cases c with
  | true => exact h1 rfl
  | false => exact h2 rfl
theorem k_Ifd {c : Prop} [Decidable c] (h1 : c → Wp (f env S) PF) (h2 : ¬ c → Wp (g env S) PF) : kIf f g env PF (decide c) S := k_Ifc (fun h => h1 (of_decide_eq_true h)) fun h => h2 (of_decide_eq_false h)
theorem k_Ifn {c : Prop} [Decidable c] (h1 : ¬ c → Wp (f env S) PF) (h2 : c → Wp (g env S) PF) : kIf f g env PF (!decide c) S := k_Ifc (fun h => h1 (by simpa using h)) fun h => h2 (by simpa using h)
def kFor (g : DG) (b : DS) (env : Ev) (P : Fl × Ev → Sto → Prop) (ds : List D) (S : Sto) : Prop := Wp (forGo g b ds env S) P
theorem w_For : Wp (sFor it gg b env S) PF = Wp (it env S) (kFor gg b env PF) := by unfold sFor; simp only [wp_bind, wp_ok]; rfl
theorem k_For : kFor gg b env PF ds S = Wp (forGo gg b ds env S) PF := by first | rfl | exact wp_ok _ _ _
def kPut1 (fo fi : DE) (env : Ev) (P : Fl × Ev → Sto → Prop) (y : D) (S : Sto) : Prop := Wp (fo env S) fun o S2 => Wp (fi env S2) fun i S3 => ∃ n ds k j, o = .ref n ∧ S3[n]? = some (.lst ds) ∧ i = .int k ∧ ixN ds.length k = some j ∧ P (.nx, env) (S3.set n (.lst (ds.set j y)))
def kPut2 (fi : DE) (env : Ev) (P : Fl × Ev → Sto → Prop) (y o : D) (S : Sto) : Prop := Wp (fi env S) fun i S3 => ∃ n ds k j, o = .ref n ∧ S3[n]? = some (.lst ds) ∧ i = .int k ∧ ixN ds.length k = some j ∧ P (.nx, env) (S3.set n (.lst (ds.set j y)))
def kPut3 (env : Ev) (P : Fl × Ev → Sto → Prop) (y o i : D) (S : Sto) : Prop := ∃ n ds k j, o = .ref n ∧ S[n]? = some (.lst ds) ∧ i = .int k ∧ ixN ds.length k = some j ∧ P (.nx, env) (S.set n (.lst (ds.set j y)))
theorem w_PutL (h : Wp (fe env S) (kPut1 fo fi env PF)) : Wp (sPutL fo fi fe env S) PF := by
  obtain ⟨y, S1, e1, h1⟩ := h.get
  obtain ⟨o, S2, e2, h2⟩ := Wp.get h1
  obtain ⟨i, S3, e3, n, ds, k, j, eo, hn, ei, hk, hp⟩ := Wp.get h2
  subst eo ei
  exact Wp.of (putL_ref e1 e2 e3 hn hk) hp
theorem k_Put1 : kPut1 fo fi env PF y S = Wp (fo env S) (kPut2 fi env PF y) := by first | rfl | exact wp_ok _ _ _
theorem k_Put2 {o : D} : kPut2 fi env PF y o S = Wp (fi env S) (kPut3 env PF y o) := by first | rfl | exact wp_ok _ _ _
def kApp (fa : DE) (env : Ev) (P : D → Sto → Prop) (o : D) (S : Sto) : Prop := ∃ n, o = .ref n ∧ (∃ ds, S[n]? = some (.lst ds)) ∧ Wp (fa env S) fun y S2 => ∃ es, S2[n]? = some (.lst es) ∧ es.length < sizeLine ∧ P .non (S2.set n (.lst (es ++ [y])))
theorem w_App (h : Wp (fo env S) (kApp fa env P)) : Wp (dAppend fo fa env S) P := by
  obtain ⟨o, S1, e1, n, eo, ⟨ds, hd⟩, h2⟩ := h.get
  subst eo
  exact wp_append e1 hd h2
def kApp2 (n : Nat) (P : D → Sto → Prop) (y : D) (S : Sto) : Prop := ∃ es, S[n]? = some (.lst es) ∧ es.length < sizeLine ∧ P .non (S.set n (.lst (es ++ [y])))
theorem k_App {n : Nat} {ds : List D} (h : S[n]? = some (.lst ds)) (h2 : Wp (fa env S) (kApp2 n P)) : kApp fa env P (.ref n) S := ⟨n, rfl, ⟨ds, h⟩, h2⟩
theorem le_size {n : Nat} (h : n ≤ 1000) : (n ≤ sizeLine) = True := by
  have e := sizeLine_eq
  exact eq_true (by omega)
theorem len_str {S : Sto} {x : Str} (h : x.length ≤ sizeLine) : oLen S [.str x] = some (.int x.length) := if_pos h
/-- a def -/
def kFun (P : D → Sto → Prop) (p : Fl × Ev) (S : Sto) : Prop := match p.1 with | .nx => P .non S | .rt d => P d S | _ => False
theorem w_Fun {g : DS} : Wp (dFun n g ds S) P = Wp (g (ds.map some ++ List.replicate (n - ds.length) none) S) (kFun P) := by
  unfold dFun
  rw [wp_bind]
  congr 1
  funext p S1
  obtain ⟨fl, env⟩ := p
  cases fl <;> first | exact wp_ok _ _ _ | exact wp_bad
theorem w_Fun0 {g : DS} : Wp (dFun0 n g ds S) P = Wp (g (ds.map some ++ List.replicate (n - ds.length) none) S) (kFun P) := by unfold dFun0; rw [wp_noexc, w_Fun]
theorem k_Funn : kFun P (.nx, env) S = P .non S := by first | rfl | exact wp_ok _ _ _
theorem k_Funr : kFun P (.rt d, env) S = P d S := by first | rfl | exact wp_ok _ _ _
theorem w_newK : Wp (dNewK env S) P = P (.ref S.length) (S ++ [.dK []]) := by first | rfl | exact wp_ok _ _ _
theorem w_newT : Wp (dNewT env S) P = P (.ref S.length) (S ++ [.dT []]) := by first | rfl | exact wp_ok _ _ _
end
end DL
end L2

set_option Elab.async false
set_option linter.all false
set_option maxRecDepth 100000
namespace L2
namespace DL
open PySem PySem.Spec PyProof.Rows
/-! ### values whose types are known -/
mutual
def typedD (S : Sto) : D → Bool
  | .tup ds => typedL S ds
  | .lst ds => typedL S ds
  | .fz ds => typedL S ds
  | .ref n => (tyN S (.ref n)).isSome
  | .ty _ => false
  | _ => true
def typedL (S : Sto) : List D → Bool
  | [] => true
  | d :: ds => typedD S d && typedL S ds
end
theorem typed_mem {S : Sto} : ∀ {ds : List D} {d : D}, typedL S ds = true → d ∈ ds → typedD S d = true
  | [], _, _, h => by cases h
  | x :: xs, d, h, hm => by
    unfold typedL at h
    rw [Bool.and_eq_true] at h
    rcases List.mem_cons.mp hm with e | e
    · rw [e]; exact h.1
    · exact typed_mem h.2 e
theorem typed_ty {S : Sto} {d : D} (h : typedD S d = true) : ∃ T, tyN S d = some T ∧ (T = "NoneType" ∨ T = "bool" ∨ T = "int" ∨ T = "str" ∨ T = "tuple" ∨ T = "list" ∨ T = "dict") := by
  cases d with
  | ref n =>
    have h' : (tyN S (.ref n)).isSome = true := h
    obtain ⟨T, e⟩ := Option.isSome_iff_exists.mp h'
    refine ⟨T, e, ?_⟩
    unfold tyN at e
    dsimp only at e
    split at e <;> cases e <;> simp
  | ty n => cases h
  | _ => exact ⟨_, rfl, by simp⟩

theorem kt_NoneType_int : kitB "NoneType" "int" = some false := by decide +kernel
theorem kt_NoneType_bool : kitB "NoneType" "bool" = some false := by decide +kernel
theorem kt_NoneType_str : kitB "NoneType" "str" = some false := by decide +kernel
theorem kt_NoneType_tuple : kitB "NoneType" "tuple" = some false := by decide +kernel
theorem kt_NoneType_list : kitB "NoneType" "list" = some false := by decide +kernel
theorem kt_NoneType_dict : kitB "NoneType" "dict" = some false := by decide +kernel
theorem kt_bool_int : kitB "bool" "int" = some true := by decide +kernel
theorem kt_bool_bool : kitB "bool" "bool" = some true := by decide +kernel
theorem kt_bool_str : kitB "bool" "str" = some false := by decide +kernel
theorem kt_bool_tuple : kitB "bool" "tuple" = some false := by decide +kernel
theorem kt_bool_list : kitB "bool" "list" = some false := by decide +kernel
theorem kt_bool_dict : kitB "bool" "dict" = some false := by decide +kernel
theorem kt_int_int : kitB "int" "int" = some true := by decide +kernel
theorem kt_int_bool : kitB "int" "bool" = some false := by decide +kernel
theorem kt_int_str : kitB "int" "str" = some false := by decide +kernel
theorem kt_int_tuple : kitB "int" "tuple" = some false := by decide +kernel
theorem kt_int_list : kitB "int" "list" = some false := by decide +kernel
theorem kt_int_dict : kitB "int" "dict" = some false := by decide +kernel
theorem kt_str_int : kitB "str" "int" = some false := by decide +kernel
theorem kt_str_bool : kitB "str" "bool" = some false := by decide +kernel
theorem kt_str_str : kitB "str" "str" = some true := by decide +kernel
theorem kt_str_tuple : kitB "str" "tuple" = some false := by decide +kernel
theorem kt_str_list : kitB "str" "list" = some false := by decide +kernel
theorem kt_str_dict : kitB "str" "dict" = some false := by decide +kernel
theorem kt_tuple_int : kitB "tuple" "int" = some false := by decide +kernel
theorem kt_tuple_bool : kitB "tuple" "bool" = some false := by decide +kernel
theorem kt_tuple_str : kitB "tuple" "str" = some false := by decide +kernel
theorem kt_tuple_tuple : kitB "tuple" "tuple" = some true := by decide +kernel
theorem kt_tuple_list : kitB "tuple" "list" = some false := by decide +kernel
theorem kt_tuple_dict : kitB "tuple" "dict" = some false := by decide +kernel
theorem kt_list_int : kitB "list" "int" = some false := by decide +kernel
theorem kt_list_bool : kitB "list" "bool" = some false := by decide +kernel
theorem kt_list_str : kitB "list" "str" = some false := by decide +kernel
theorem kt_list_tuple : kitB "list" "tuple" = some false := by decide +kernel
theorem kt_list_list : kitB "list" "list" = some true := by decide +kernel
theorem kt_list_dict : kitB "list" "dict" = some false := by decide +kernel
theorem kt_dict_int : kitB "dict" "int" = some false := by decide +kernel
theorem kt_dict_bool : kitB "dict" "bool" = some false := by decide +kernel
theorem kt_dict_str : kitB "dict" "str" = some false := by decide +kernel
theorem kt_dict_tuple : kitB "dict" "tuple" = some false := by decide +kernel
theorem kt_dict_list : kitB "dict" "list" = some false := by decide +kernel
theorem kt_dict_dict : kitB "dict" "dict" = some true := by decide +kernel
theorem inst_of {S : Sto} {d : D} {T c : String} {b : Bool} (h : tyN S d = some T) (k : kitB T c = some b) : oIsInst S [d, .ty c] = some (.bl b) := by
  unfold oIsInst
  dsimp only
  rw [h]
  dsimp only
  rw [k]
  rfl

theorem ii_non_int {S : Sto}  : oIsInst S [.non, .ty "int"] = some (.bl false) := inst_of rfl kt_NoneType_int
theorem ii_non_bool {S : Sto}  : oIsInst S [.non, .ty "bool"] = some (.bl false) := inst_of rfl kt_NoneType_bool
theorem ii_non_str {S : Sto}  : oIsInst S [.non, .ty "str"] = some (.bl false) := inst_of rfl kt_NoneType_str
theorem ii_non_tuple {S : Sto}  : oIsInst S [.non, .ty "tuple"] = some (.bl false) := inst_of rfl kt_NoneType_tuple
theorem ii_non_list {S : Sto}  : oIsInst S [.non, .ty "list"] = some (.bl false) := inst_of rfl kt_NoneType_list
theorem ii_non_dict {S : Sto}  : oIsInst S [.non, .ty "dict"] = some (.bl false) := inst_of rfl kt_NoneType_dict
theorem ii_bl_int {S : Sto} {b : Bool} : oIsInst S [(.bl b), .ty "int"] = some (.bl true) := inst_of rfl kt_bool_int
theorem ii_bl_bool {S : Sto} {b : Bool} : oIsInst S [(.bl b), .ty "bool"] = some (.bl true) := inst_of rfl kt_bool_bool
theorem ii_bl_str {S : Sto} {b : Bool} : oIsInst S [(.bl b), .ty "str"] = some (.bl false) := inst_of rfl kt_bool_str
theorem ii_bl_tuple {S : Sto} {b : Bool} : oIsInst S [(.bl b), .ty "tuple"] = some (.bl false) := inst_of rfl kt_bool_tuple
theorem ii_bl_list {S : Sto} {b : Bool} : oIsInst S [(.bl b), .ty "list"] = some (.bl false) := inst_of rfl kt_bool_list
theorem ii_bl_dict {S : Sto} {b : Bool} : oIsInst S [(.bl b), .ty "dict"] = some (.bl false) := inst_of rfl kt_bool_dict
theorem ii_int_int {S : Sto} {i : Int} : oIsInst S [(.int i), .ty "int"] = some (.bl true) := inst_of rfl kt_int_int
theorem ii_int_bool {S : Sto} {i : Int} : oIsInst S [(.int i), .ty "bool"] = some (.bl false) := inst_of rfl kt_int_bool
theorem ii_int_str {S : Sto} {i : Int} : oIsInst S [(.int i), .ty "str"] = some (.bl false) := inst_of rfl kt_int_str
theorem ii_int_tuple {S : Sto} {i : Int} : oIsInst S [(.int i), .ty "tuple"] = some (.bl false) := inst_of rfl kt_int_tuple
theorem ii_int_list {S : Sto} {i : Int} : oIsInst S [(.int i), .ty "list"] = some (.bl false) := inst_of rfl kt_int_list
theorem ii_int_dict {S : Sto} {i : Int} : oIsInst S [(.int i), .ty "dict"] = some (.bl false) := inst_of rfl kt_int_dict
theorem ii_str_int {S : Sto} {x : Str} : oIsInst S [(.str x), .ty "int"] = some (.bl false) := inst_of rfl kt_str_int
theorem ii_str_bool {S : Sto} {x : Str} : oIsInst S [(.str x), .ty "bool"] = some (.bl false) := inst_of rfl kt_str_bool
theorem ii_str_str {S : Sto} {x : Str} : oIsInst S [(.str x), .ty "str"] = some (.bl true) := inst_of rfl kt_str_str
theorem ii_str_tuple {S : Sto} {x : Str} : oIsInst S [(.str x), .ty "tuple"] = some (.bl false) := inst_of rfl kt_str_tuple
theorem ii_str_list {S : Sto} {x : Str} : oIsInst S [(.str x), .ty "list"] = some (.bl false) := inst_of rfl kt_str_list
theorem ii_str_dict {S : Sto} {x : Str} : oIsInst S [(.str x), .ty "dict"] = some (.bl false) := inst_of rfl kt_str_dict
theorem ii_tup_int {S : Sto} {ds : List D} : oIsInst S [(.tup ds), .ty "int"] = some (.bl false) := inst_of rfl kt_tuple_int
theorem ii_tup_bool {S : Sto} {ds : List D} : oIsInst S [(.tup ds), .ty "bool"] = some (.bl false) := inst_of rfl kt_tuple_bool
theorem ii_tup_str {S : Sto} {ds : List D} : oIsInst S [(.tup ds), .ty "str"] = some (.bl false) := inst_of rfl kt_tuple_str
theorem ii_tup_tuple {S : Sto} {ds : List D} : oIsInst S [(.tup ds), .ty "tuple"] = some (.bl true) := inst_of rfl kt_tuple_tuple
theorem ii_tup_list {S : Sto} {ds : List D} : oIsInst S [(.tup ds), .ty "list"] = some (.bl false) := inst_of rfl kt_tuple_list
theorem ii_tup_dict {S : Sto} {ds : List D} : oIsInst S [(.tup ds), .ty "dict"] = some (.bl false) := inst_of rfl kt_tuple_dict
theorem ii_lst_int {S : Sto} {ds : List D} : oIsInst S [(.lst ds), .ty "int"] = some (.bl false) := inst_of rfl kt_list_int
theorem ii_lst_bool {S : Sto} {ds : List D} : oIsInst S [(.lst ds), .ty "bool"] = some (.bl false) := inst_of rfl kt_list_bool
theorem ii_lst_str {S : Sto} {ds : List D} : oIsInst S [(.lst ds), .ty "str"] = some (.bl false) := inst_of rfl kt_list_str
theorem ii_lst_tuple {S : Sto} {ds : List D} : oIsInst S [(.lst ds), .ty "tuple"] = some (.bl false) := inst_of rfl kt_list_tuple
theorem ii_lst_list {S : Sto} {ds : List D} : oIsInst S [(.lst ds), .ty "list"] = some (.bl true) := inst_of rfl kt_list_list
theorem ii_lst_dict {S : Sto} {ds : List D} : oIsInst S [(.lst ds), .ty "dict"] = some (.bl false) := inst_of rfl kt_list_dict
theorem ii_fz_int {S : Sto} {ds : List D} : oIsInst S [(.fz ds), .ty "int"] = some (.bl false) := inst_of rfl kt_list_int
theorem ii_fz_bool {S : Sto} {ds : List D} : oIsInst S [(.fz ds), .ty "bool"] = some (.bl false) := inst_of rfl kt_list_bool
theorem ii_fz_str {S : Sto} {ds : List D} : oIsInst S [(.fz ds), .ty "str"] = some (.bl false) := inst_of rfl kt_list_str
theorem ii_fz_tuple {S : Sto} {ds : List D} : oIsInst S [(.fz ds), .ty "tuple"] = some (.bl false) := inst_of rfl kt_list_tuple
theorem ii_fz_list {S : Sto} {ds : List D} : oIsInst S [(.fz ds), .ty "list"] = some (.bl true) := inst_of rfl kt_list_list
theorem ii_fz_dict {S : Sto} {ds : List D} : oIsInst S [(.fz ds), .ty "dict"] = some (.bl false) := inst_of rfl kt_list_dict
theorem ir_int {S : Sto} {n : Nat} (h : typedD S (.ref n) = true) : oIsInst S [.ref n, .ty "int"] = some (.bl false) := by
  have h' : (tyN S (.ref n)).isSome = true := h
  obtain ⟨T, e⟩ := Option.isSome_iff_exists.mp h'
  have e2 := e
  unfold tyN at e2
  dsimp only at e2
  split at e2
  · exact inst_of (T := "list") (by rw [e]; exact e2.symm) kt_list_int
  · exact inst_of (T := "dict") (by rw [e]; exact e2.symm) kt_dict_int
  · exact inst_of (T := "dict") (by rw [e]; exact e2.symm) kt_dict_int
  · cases e2
theorem ir_bool {S : Sto} {n : Nat} (h : typedD S (.ref n) = true) : oIsInst S [.ref n, .ty "bool"] = some (.bl false) := by
  have h' : (tyN S (.ref n)).isSome = true := h
  obtain ⟨T, e⟩ := Option.isSome_iff_exists.mp h'
  have e2 := e
  unfold tyN at e2
  dsimp only at e2
  split at e2
  · exact inst_of (T := "list") (by rw [e]; exact e2.symm) kt_list_bool
  · exact inst_of (T := "dict") (by rw [e]; exact e2.symm) kt_dict_bool
  · exact inst_of (T := "dict") (by rw [e]; exact e2.symm) kt_dict_bool
  · cases e2
theorem ir_str {S : Sto} {n : Nat} (h : typedD S (.ref n) = true) : oIsInst S [.ref n, .ty "str"] = some (.bl false) := by
  have h' : (tyN S (.ref n)).isSome = true := h
  obtain ⟨T, e⟩ := Option.isSome_iff_exists.mp h'
  have e2 := e
  unfold tyN at e2
  dsimp only at e2
  split at e2
  · exact inst_of (T := "list") (by rw [e]; exact e2.symm) kt_list_str
  · exact inst_of (T := "dict") (by rw [e]; exact e2.symm) kt_dict_str
  · exact inst_of (T := "dict") (by rw [e]; exact e2.symm) kt_dict_str
  · cases e2
theorem ir_tuple {S : Sto} {n : Nat} (h : typedD S (.ref n) = true) : oIsInst S [.ref n, .ty "tuple"] = some (.bl false) := by
  have h' : (tyN S (.ref n)).isSome = true := h
  obtain ⟨T, e⟩ := Option.isSome_iff_exists.mp h'
  have e2 := e
  unfold tyN at e2
  dsimp only at e2
  split at e2
  · exact inst_of (T := "list") (by rw [e]; exact e2.symm) kt_list_tuple
  · exact inst_of (T := "dict") (by rw [e]; exact e2.symm) kt_dict_tuple
  · exact inst_of (T := "dict") (by rw [e]; exact e2.symm) kt_dict_tuple
  · cases e2
def isIntD : D → Bool
  | .int _ => true
  | .bl _ => true
  | _ => false
def isBlD : D → Bool
  | .bl _ => true
  | _ => false
def isStrD : D → Bool
  | .str _ => true
  | _ => false
def isTupD : D → Bool
  | .tup _ => true
  | _ => false
theorem it_int {S : Sto} {d : D} (h : typedD S d = true) : oIsInst S [d, .ty "int"] = some (.bl (isIntD d)) := by
  cases d with
  | ref n => exact ir_int h
  | ty n => cases h
  | non => exact ii_non_int
  | bl b => exact ii_bl_int
  | int i => exact ii_int_int
  | str x => exact ii_str_int
  | tup ds => exact ii_tup_int
  | lst ds => exact ii_lst_int
  | fz ds => exact ii_fz_int
theorem it_bool {S : Sto} {d : D} (h : typedD S d = true) : oIsInst S [d, .ty "bool"] = some (.bl (isBlD d)) := by
  cases d with
  | ref n => exact ir_bool h
  | ty n => cases h
  | non => exact ii_non_bool
  | bl b => exact ii_bl_bool
  | int i => exact ii_int_bool
  | str x => exact ii_str_bool
  | tup ds => exact ii_tup_bool
  | lst ds => exact ii_lst_bool
  | fz ds => exact ii_fz_bool
theorem it_str {S : Sto} {d : D} (h : typedD S d = true) : oIsInst S [d, .ty "str"] = some (.bl (isStrD d)) := by
  cases d with
  | ref n => exact ir_str h
  | ty n => cases h
  | non => exact ii_non_str
  | bl b => exact ii_bl_str
  | int i => exact ii_int_str
  | str x => exact ii_str_str
  | tup ds => exact ii_tup_str
  | lst ds => exact ii_lst_str
  | fz ds => exact ii_fz_str
theorem it_tuple {S : Sto} {d : D} (h : typedD S d = true) : oIsInst S [d, .ty "tuple"] = some (.bl (isTupD d)) := by
  cases d with
  | ref n => exact ir_tuple h
  | ty n => cases h
  | non => exact ii_non_tuple
  | bl b => exact ii_bl_tuple
  | int i => exact ii_int_tuple
  | str x => exact ii_str_tuple
  | tup ds => exact ii_tup_tuple
  | lst ds => exact ii_lst_tuple
  | fz ds => exact ii_fz_tuple
theorem typed_tup {S : Sto} {ds : List D} (h : typedD S (.tup ds) = true) : ∀ d ∈ ds, typedD S d = true := fun d hd => typed_mem (show typedL S ds = true from h) hd
theorem blsOf_map {A : Type} (f : A → Bool) : ∀ l : List A, blsOf (l.map fun a => D.bl (f a)) = some (l.map f)
  | [] => rfl
  | a :: l => by
    rw [List.map_cons, List.map_cons]
    unfold blsOf
    rw [blsOf_map f l]
    rfl
theorem all_lst {A : Type} (S : Sto) (f : A → Bool) (l : List A) : oAll S [.lst (l.map fun a => D.bl (f a))] = some (.bl (l.all f)) := by
  show ((listOf S (.lst _)).bind blsOf).map _ = _
  show (blsOf _).map _ = _
  rw [blsOf_map, Option.map_some, List.all_map]
  rfl
theorem add_ll {S : Sto} {a b : List D} (h : a.length + b.length ≤ 1000) : oAdd S (.lst a) (.lst b) = some (.lst (a ++ b)) := by
  refine (orO_none rfl).trans (orO_some ?_)
  show (if a.length + b.length ≤ sizeLine then some (D.lst (a ++ b)) else none) = _
  rw [if_pos (by have e := sizeLine_eq; omega)]
theorem add_tt {S : Sto} {a b : List D} (h : a.length + b.length ≤ 1000) : oAdd S (.tup a) (.tup b) = some (.tup (a ++ b)) := by
  refine (orO_none rfl).trans ((orO_none rfl).trans (orO_some ?_))
  show (if a.length + b.length ≤ sizeLine then some (D.tup (a ++ b)) else none) = _
  rw [if_pos (by have e := sizeLine_eq; omega)]
theorem tuple_lst (S : Sto) (a : List D) : oTuple S [.lst a] = some (.tup a) := rfl
theorem tuple_tup (S : Sto) (a : List D) : oTuple S [.tup a] = some (.tup a) := rfl
theorem list_tup (S : Sto) (a : List D) : oListC S [.tup a] = some (.lst a) := rfl
theorem list_lst (S : Sto) (a : List D) : oListC S [.lst a] = some (.lst a) := rfl
theorem sl_tup (S : Sto) (a : List D) (l u : Option Int) : oSl S (.tup a) l u = some (.tup (cutD a l u)) := rfl
theorem sl_lst (S : Sto) (a : List D) (l u : Option Int) : oSl S (.lst a) l u = some (.lst (cutD a l u)) := rfl
theorem mul_ti {S : Sto} {a : List D} {k : Int} (h : a ≠ []) (h2 : 2 ≤ k) (h3 : k ≤ 1000) (h4 : a.length ≤ 1000) : oMul S (.tup a) (.int k) = some (.tup (List.replicate k.toNat a).flatten) := by
  refine (orO_none rfl).trans ((orO_none rfl).trans ?_)
  show (if a ≠ [] ∧ 2 ≤ k ∧ k ≤ 1000 ∧ a.length ≤ 1000 then some (D.tup (List.replicate k.toNat a).flatten) else none) = _
  rw [if_pos ⟨h, h2, h3, h4⟩]
theorem cut_lo (ds : List D) (i : Int) (h0 : 0 ≤ i) (h : i ≤ ds.length) : cutD ds none (some i) = ds.take i.toNat := by
  have e : i = ((i.toNat : Nat) : Int) := by omega
  unfold cutD
  rw [e, HT.sIx_nat, HT.sIx_none, List.drop_zero, Nat.sub_zero, Int.toNat_natCast, Nat.min_eq_left (by omega)]
theorem cut_hi (ds : List D) (i : Int) (h0 : 0 ≤ i) (h : i ≤ ds.length) : cutD ds (some i) none = ds.drop i.toNat := by
  have e : i = ((i.toNat : Nat) : Int) := by omega
  unfold cutD
  rw [e, HT.sIx_nat, HT.sIx_none, Int.toNat_natCast, Nat.min_eq_left (by omega), List.take_of_length_le (by rw [List.length_drop]; omega)]
theorem atI_in {ds : List D} {i : Int} (h0 : 0 ≤ i) (h : i < ds.length) : atI ds i = some (ds[i.toNat]'(by omega)) := at_nat h0 (List.getElem?_eq_getElem _)
mutual
theorem typed_any {S : Sto} : ∀ {d : D}, typedD [] d = true → typedD S d = true
  | .non, _ => rfl
  | .bl _, _ => rfl
  | .int _, _ => rfl
  | .str _, _ => rfl
  | .tup ds, h => typedL_any (ds := ds) h
  | .lst ds, h => typedL_any (ds := ds) h
  | .fz ds, h => typedL_any (ds := ds) h
  | .ref n, h => by
    have h' : (tyN [] (.ref n)).isSome = true := h
    cases h'
  | .ty _, h => by cases h
theorem typedL_any {S : Sto} : ∀ {ds : List D}, typedL [] ds = true → typedL S ds = true
  | [], _ => rfl
  | d :: ds, h => by
    have h' : (typedD [] d && typedL [] ds) = true := h
    rw [Bool.and_eq_true] at h'
    show (typedD S d && typedL S ds) = true
    rw [typed_any h'.1, typedL_any h'.2]
    rfl
end
theorem allc {p : D → Prop} {a : D} {l : List D} (h : p a) (k : ∀ d ∈ l, p d) : ∀ d ∈ a :: l, p d := fun d hd => by
  rcases List.mem_cons.mp hd with e | e
  · rw [e]; exact h
  · exact k d e
theorem alln {p : D → Prop} : ∀ d ∈ ([] : List D), p d := fun d hd => nomatch hd
end DL
end L2

set_option Elab.async false
set_option linter.all false
set_option maxRecDepth 100000
namespace HT
open PySem PySem.Spec PyProof.Rows
section
variable {prog : Program} {w : World} {A : Around} {E : Value → Shared → Prop} {s : Shared}
theorem adjust_rev (n : Nat) : Builtin.Slice.sliceAdjust none none (-1) (n : Int) = ((n : Int) - 1, -1) := by
  unfold Builtin.Slice.sliceAdjust
  simp
theorem places_rev (n : Nat) : Builtin.Slice.slicePlaces ((n : Int) - 1) (-1) (-1) = n := by
  unfold Builtin.Slice.slicePlaces
  simp
  omega
theorem sliceApplied_rev {sl : Addr} {vl vu vk : Value} {n : Nat} {Q : Int × Int × Nat → Shared → Prop} (hs : s.heap.IsSliceOf sl vl vu vk) (pl : IsPart vl none) (pu : IsPart vu none) (pk : IsPart vk (some (-1)))
    (h : Q ((n : Int) - 1, -1, n) s) : wpAny (model prog w) A (Builtin.Slice.sliceApplied (.ref sl) (pure (n : Int))) Q E s := by
  obtain ⟨os, hos, hcs, hds⟩ := id hs
  unfold Builtin.Slice.sliceApplied Builtin.Slice.sliceFields
  refine wpAny_bind (wpAny_bind (wpAny_field hos hds (x := vl) rfl (wpAny_bind (wpAny_field hos hds (x := vu) rfl (wpAny_bind (wpAny_field hos hds (x := vk) rfl (wpAny_pure ?_)))))))
  refine wpAny_bind (slicePart_ pk ?_)
  show wpAny _ _ (if ((-1 : Int) == 0) = true then _ else _) _ _ s
  rw [if_neg (by decide)]
  refine wpAny_bind (slicePart_ pl (wpAny_bind (slicePart_ pu (wpAny_bind (wpAny_pure ?_)))))
  show wpAny _ _ (match Builtin.Slice.sliceAdjust none none (-1) (n : Int) with | (lo, hi) => pure (lo, (-1 : Int), Builtin.Slice.slicePlaces lo hi (-1))) _ _ s
  rw [adjust_rev n]
  show wpAny _ _ (pure (((n : Int) - 1), (-1 : Int), Builtin.Slice.slicePlaces ((n : Int) - 1) (-1) (-1))) _ _ s
  rw [places_rev]
  exact wpAny_pure h
theorem fm_some {α β : Type} (f : α → Option β) (g : α → β) : ∀ l : List α, (∀ m ∈ l, f m = some (g m)) → l.filterMap f = l.map g
  | [], _ => rfl
  | a :: l, h => by rw [List.filterMap_cons_some (h a List.mem_cons_self), List.map_cons, fm_some f g l fun m hm => h m (List.mem_cons_of_mem _ hm)]
theorem pick_rev (xs : Array Value) : ((List.range xs.size).filterMap fun (m : Nat) => xs[(((xs.size : Int) - 1) + (m : Int) * (-1)).toNat]?).toArray = xs.toList.reverse.toArray := by
  have key : ∀ l : List Value, ((List.range l.length).filterMap fun (m : Nat) => l[(((l.length : Int) - 1) + (m : Int) * (-1)).toNat]?) = l.reverse := fun l => by
    refine List.ext_getElem? fun i => ?_
    have e : (List.range l.length).filterMap (fun (m : Nat) => l[(((l.length : Int) - 1) + (m : Int) * (-1)).toNat]?) = (List.range l.length).map fun (m : Nat) => l[(((l.length : Int) - 1) + (m : Int) * (-1)).toNat]?.getD .none := by
      refine fm_some _ _ _ fun m hm => ?_
      rw [List.mem_range] at hm
      rw [List.getElem?_eq_getElem (show (((l.length : Int) - 1) + (m : Int) * (-1)).toNat < l.length by omega)]
      rfl
    rw [e, List.getElem?_map]
    by_cases hi : i < l.length
    · rw [List.getElem?_range hi, List.getElem?_reverse hi]
      show some (l[(((l.length : Int) - 1) + (i : Int) * (-1)).toNat]?.getD .none) = _
      rw [show (((l.length : Int) - 1) + (i : Int) * (-1)).toNat = l.length - 1 - i by omega, List.getElem?_eq_getElem (show l.length - 1 - i < l.length by omega)]
      rfl
    · rw [List.getElem?_eq_none (by rw [List.length_range]; omega), List.getElem?_eq_none (by rw [List.length_reverse]; omega)]
      rfl
  have := key xs.toList
  rw [Array.length_toList] at this
  rw [← this]
  simp only [Array.getElem?_toList]
theorem getItem_tuple_rev {t sl : Addr} {items : Array Value} {vl vu vk : Value} {Q : Value → Shared → Prop} (ht : IsTup s.heap t items) (hs : s.heap.IsSliceOf sl vl vu vk) (pl : IsPart vl none) (pu : IsPart vu none) (pk : IsPart vk (some (-1)))
    (h : Q (.ref s.heap.objs.size) { s with heap := s.heap.push { cls := .type "tuple", data := .seq items.toList.reverse.toArray } }) (hsz : items.size ≤ sizeLine) : wpAny (model prog w) A (getItem (.ref t) (.ref sl)) Q E s := by
  have htake : sizeOk (.seq items.toList.reverse.toArray) := by
    show items.toList.reverse.toArray.size ≤ sizeLine
    rw [List.size_toArray, List.length_reverse, Array.length_toList]
    exact hsz
  obtain ⟨os, hos, hcs, hds⟩ := id hs
  have hTs : s.TypeIs (.ref sl) "slice" := ⟨os, hos, hcs⟩
  unfold getItem
  try with_reducible refine wpAny_holding ?_
  first | refine wpAny_bind (wpAny_pure ?_) | skip
  refine wpAny_bind (wpAny_sequenceKey ht.typeIs (by decide) ?_)
  refine wpAny_bind (wpAny_callSpecial?_slot (name := Str.ofString "__getitem__") ht.typeIs PyProof.Rows.slot_tuple_getitem
    (wpAny_call_entry PyProof.Rows.slot_tuple_getitem ht.typeIs entry_tuple_getitem ?_ (args_tuple_getitem _ _)))
  show wpAny _ _ (Builtin.Tuple.tupleItemsOf (.ref t) >>= _) _ _ s
  refine wpAny_bind (tupleItemsOf_ ht ?_)
  refine wpAny_bind (wpAny_typeOf hTs ?_)
  rw [if_pos (by decide)]
  refine wpAny_bind (sliceApplied_rev hs pl pu pk ?_)
  have hno : ¬ ((((items.size : Int) - 1) == 0 && (-1 : Int) == 1 && items.size == items.size) = true) := by
    intro q
    rw [Bool.and_eq_true, Bool.and_eq_true] at q
    exact absurd q.1.2 (by decide)
  show wpAny _ _ (if (((items.size : Int) - 1) == 0 && (-1 : Int) == 1 && items.size == items.size) = true then _ else _) _ _ s
  rw [if_neg hno, pick_rev]
  first
    | exact wpAny_bind (m := Builtin.Tuple.tupleExact _) (wpAny_newObj_type (wpAny_pure ⟨_, rfl, wpAny_pure h⟩) htake)
    | exact wpAny_bind (m := Builtin.Tuple.tupleExact _) (wpAny_newObj_type (wpAny_bind (wpAny_pure (wpAny_pure ⟨_, rfl, wpAny_pure h⟩))) htake)
    | exact wpAny_bind (wpAny_bind (m := Builtin.Tuple.tupleExact _) (wpAny_newObj_type (wpAny_pure (wpAny_pure ⟨_, rfl, wpAny_pure h⟩)) htake))
    | exact wpAny_bind (wpAny_bind (m := Builtin.Tuple.tupleExact _) (wpAny_newObj_type (wpAny_pure ⟨_, rfl, wpAny_pure h⟩) htake))
end
end HT
namespace L2
open PySem PySem.Spec PyProof.Rows
section
variable {X : Cx}
def tRevT (K : PySem.W.Frag) (te : TE) : TE := fun σ H Q => te σ H fun x H1 => ∃ a xs, x = .ref a ∧ SqT K H1 a xs ∧ ∀ p, H1 p = none → Q (.ref p) (upd H1 p (.tup xs.reverse))
theorem pe_revT {e : Expr} {te : TE} {k : Nat} {p1 p2 p3 pos : Pos} (he : PE X e te) : PE X (.Subscript e (.Slice none none (some (.UnaryOp .USub (.Constant (.int 1) k p1) p2)) p3) pos) (tRevT X.K te) := by
  refine ⟨fun pins s σ H Q I h => ?_⟩
  refine Subscript_ (thn (he.run pins s σ H _ I h) fun v s1 ⟨x, H1, I1, r1, q1⟩ => ?_)
  obtain ⟨a, xs, ex, hx, q⟩ := q1
  subst ex
  cases r1
  have hst : PO X (some (.UnaryOp .USub (.Constant (.int 1) k p1) p2)) (tPart (tUn (rU fun i => .int (-i)) (tC (.int 1)))) := po_some (pe_un un_neg pe_int)
  refine wpAny_Slice (thn (po_none.run pins s1 σ H1 (fun o H2 => o = none ∧ H2 = H1) I1 ⟨rfl, rfl⟩) fun vl s2 ⟨l, H2, I2, pl, el, e2⟩ => ?_)
  subst el e2
  refine thn (po_none.run pins s2 σ H2 (fun o H3 => o = none ∧ H3 = H2) I2 ⟨rfl, rfl⟩) fun vu s3 ⟨u, H3, I3, pu, eu, e3⟩ => ?_
  subst eu e3
  refine thn (hst.run pins s3 σ H3 (fun o H4 => o = some (-1) ∧ H4 = H3) I3 ⟨1, rfl, -1, rfl, rfl, rfl⟩) fun vs s4 ⟨o, H4, I4, ps, eo, e4⟩ => ?_
  subst eo e4
  have I5 : Inv X pins σ H4 { s4 with heap := s4.heap.push { cls := .type "slice", data := .fields #[vl, vu, vs] } } := I4.kept (t' := s4.toks) fun b ob q => Heap.get?_push_of_some _ q
  obtain ⟨its, r, ht, hz⟩ := I5.tuple hx
  have hlen := r.length
  show wpAny (model X.prog X.w) X.A (subscriptTail e (.Slice none none (some (.UnaryOp .USub (.Constant (.int 1) k p1) p2)) p3) (.ref a) (.ref s4.heap.objs.size)) (EP X pins σ Q) X.xe { s4 with heap := s4.heap.push { cls := .type "slice", data := .fields #[vl, vu, vs] } }
  refine tail_any (ops := [.ref a, .ref s4.heap.objs.size]) ht.typeIs PyProof.Rows.slot_tuple_getitem.lookup ?_ (by with_unfolding_all rfl)
  refine HT.getItem_tuple_rev ht (Heap.IsSliceOf.new _ vl vu vs) pl pu ps ?_ (by rw [List.size_toArray]; omega)
  refine ⟨.ref _, _, I5.laid (t' := s4.toks) (o := .tup xs.reverse) (fun b ob q => Heap.get?_push_of_some _ q) (Nat.le_refl _) ?_, rfl, q _ (I5.hok.fresh (Nat.le_refl _))⟩
  exact ⟨by rw [List.length_reverse]; exact hz, _, r.reverse, IsTup.new _ _⟩
end
namespace DL
section
variable {X : Cx} {W : WX} {e : Expr} {f : DE}
theorem PE.or {e : Expr} {u u' : TE} (h : PE X e u) (h' : PE X e u') : PE X e (fun σ H Q => u σ H Q ∨ u' σ H Q) := ⟨fun pins s σ H Q I q => q.elim (h.run pins s σ H Q I) (h'.run pins s σ H Q I)⟩
/-- x[::-1] -/
def oRev : Sto → D → Option D := fun S x => match x with
  | .tup ds => some (.tup ds.reverse)
  | d => (listOf S d).map fun ds => .lst ds.reverse
def dRev (f : DE) : DE := fun env S => (f env S).bind fun x S1 => lift (oRev S1 x) S1
theorem de_rev {k : Nat} {p1 p2 p3 pos : Pos} (he : PE X e (tE X W f)) : PE X (.Subscript e (.Slice none none (some (.UnaryOp .USub (.Constant (.int 1) k p1) p2)) p3) pos) (tE X W (dRev f)) := by
  refine PE.imp (PE.or (pe_revT he) (pe_revL he)) fun σ H Q q => ?_
  obtain ⟨r, t, S, env, rel, g⟩ := q
  unfold dRev at g
  cases h : f env S with
  | bad => rw [h] at g; exact (show False from g).elim
  | exc c S1 =>
    rw [h, Out.bind_exc] at g
    refine .inl ⟨r, t, S, env, rel, ?_⟩
    rw [h]
    exact g
  | ok d S1 =>
    rw [h, Out.bind_ok] at g
    obtain ⟨d', e1, g1⟩ := g.lift
    by_cases ht : ∃ ds, d = .tup ds
    · obtain ⟨ds, ed⟩ := ht
      subst ed
      cases e1
      refine .inl ⟨r, t, S, env, rel, ?_⟩
      rw [h]
      intro H1 r1 ex so v dv
      cases dv with
      | tup h1 z => exact ⟨_, _, rfl, sqT_of h1, fun p hp => g1 _ r1 (ex.trans (Ext.new hp)) (so.new hp) _ (.tup upd_same (DenL.ext (Ext.new (r := r1) hp) _ _ z.reverse))⟩
    · have e2 : (listOf S1 d).map (fun ds => D.lst ds.reverse) = some d' := by
        cases d <;> first | exact e1 | exact absurd ⟨_, rfl⟩ ht
      obtain ⟨ds, e3, e4⟩ := Option.map_eq_some_iff.mp e2
      subst e4
      refine .inr ⟨r, t, S, env, rel, ?_⟩
      rw [h]
      intro H1 r1 ex so v dv
      obtain ⟨a, xs, ev, hs, z⟩ := list_ok so dv e3
      have nn := fun p (hp : H1 p = none) => notinNew so hp
      exact ⟨a, xs, ev, hs, fun p hp => g1 _ r1 (ex.trans (Ext.new hp)) (so.new hp) _ (.lst upd_same (nn p hp).1 (nn p hp).2 (DenL.ext (Ext.new (r := r1) hp) _ _ z.reverse))⟩
end
end DL
end L2

set_option Elab.async false
set_option linter.all false
set_option maxRecDepth 100000
namespace L2
namespace DL
open PySem PySem.Spec PyProof.Rows

/-! ### a loop over a list that may be changed, and is not -/
open Classical in
noncomputable def keepC {A : Type} (n : Nat) (ds : List D) (S : Sto) (m : Out A) : Out A := if S[n]? = some (.lst ds) then m else .bad
noncomputable def forGoC (n : Nat) (ds0 : List D) (g : DG) (b : DS) : List D → Ev → Sto → Out (Fl × Ev)
  | [], env, S => keepC n ds0 S (.ok (.nx, env) S)
  | d :: ds, env, S => keepC n ds0 S (match g env d with
    | none => .bad
    | some env' => (b env' S).bind fun p S1 => match p.1 with
      | .nx => forGoC n ds0 g b ds p.2 S1
      | .ct => forGoC n ds0 g b ds p.2 S1
      | .bk => .ok (.nx, p.2) S1
      | .rt v => .ok (.rt v, p.2) S1)
noncomputable def sForC (f : DE) (g : DG) (b : DS) : DS := fun env S => (f env S).bind fun d S1 => match d, lstOf S1 d with
  | .ref n, some ds => forGoC n ds g b ds env S1
  | _, _ => .bad
section
variable {X : Cx} {E : XK} {f : DS} {fe : DE} {pos : Pos}
theorem Good.keepC {A : Type} {K : PySem.W.Frag} {mg : Str → Option Value} {t : List Addr} {Ex : Addr → Hp → Prop} {r : List Addr} {H : Hp} {n : Nat} {ds : List D} {S : Sto} {m : Out A} {R : A → Sto → List Addr → Hp → Prop}
    (g : Good K mg t Ex r H (DL.keepC n ds S m) R) : S[n]? = some (.lst ds) ∧ Good K mg t Ex r H m R := by
  unfold DL.keepC at g
  by_cases h : S[n]? = some (.lst ds)
  · rw [if_pos h] at g; exact ⟨h, g⟩
  · rw [if_neg h] at g; exact (show False from g).elim
theorem ds_forC {tg iter : Expr} {body : List Stmt} {gg : DG} {own : List Nat} (hp : PassesOwn (model X.prog X.w) X.A X.env X.xe) (hc : X.calm = true) (he : PE X iter (tE X (WC E) fe)) (hg : PG X tg (tG X.K X.mg own gg)) (hb : PSs X body (tS X E f))
    (hs : ∀ x, foldedSetIterable iter X.env x = pure x := by intro _; rfl) : PS X (.For tg iter body [] pos) (tS X E (sForC fe gg f)) := by
  refine PS.imp (ps_for hp hc (pi_list he) hg hb hs) fun D σ H q => ?_
  obtain ⟨r, t, S, env, rel, g0⟩ := q
  refine ⟨r, t, S, env, rel, g0.bind.mono fun d S1 r1 H1 ex so g1 v dv => ?_⟩
  split at g1
  · rename_i n ds hds
    obtain ⟨a, xs, ev, hn, ha, z⟩ := ref_lst so dv hds
    subst ev
    have hS1 : S1[n]? = some (.lst ds) := by
      unfold lstOf at hds
      dsimp only at hds
      split at hds
      · rename_i es h; cases hds; exact h
      · cases hds
    refine ⟨a, rfl, ⟨xs, .inl (.inl ha)⟩, fun i m σ2 H2 => m = ds.length - i ∧ i ≤ ds.length ∧ ∃ r2 S2 env2, r2[n]? = some a ∧ Rel X.K X.mg H2 r2 t S2 env2 σ2 ∧ Good X.K X.mg t (EC E) r2 H2 (forGoC n ds gg f (ds.drop i) env2 S2) (RS X D t), ⟨ds.length, by simp, Nat.zero_le _, r1, S1, env, hn, rel.ext ex so, g1⟩, ?_⟩
    rintro i m σ2 H2 ⟨rfl, hi, r2, S2, env2, hn2, rel2, g2⟩
    by_cases hlt : i < ds.length
    · rw [List.drop_eq_getElem_cons hlt] at g2
      unfold forGoC at g2
      obtain ⟨hS2, g2⟩ := g2.keepC
      obtain ⟨b, ys, eb, hb2, hys, z2⟩ := ref_lst rel2.so (.ref hn2) (lst_ref hS2)
      cases eb
      obtain ⟨u, hu, du⟩ := z2.get (List.getElem?_eq_getElem hlt)
      cases hE : gg env2 ds[i] with
      | none => rw [hE] at g2; exact (show False from g2).elim
      | some env' =>
        rw [hE] at g2
        dsimp only at g2
        refine .inr ⟨⟨ys, u, .inl (.inl hys), hu⟩, fun σ3 H3 => ∃ m', m' < ds.length - i ∧ m' = ds.length - (i + 1) ∧ i + 1 ≤ ds.length ∧ ∃ r2 S2 env2, r2[n]? = some a ∧ Rel X.K X.mg H3 r2 t S2 env2 σ3 ∧ Good X.K X.mg t (EC E) r2 H3 (forGoC n ds gg f (ds.drop (i + 1)) env2 S2) (RS X D t), fun σ' H' h => h, fun x H' y => ?_⟩
        obtain ⟨eH, hx⟩ := y
        subst eH
        have ex1 := Option.some.inj ((hx ys (.inl (.inl hys))).symm.trans hu)
        subst ex1
        refine ⟨r2, t, S2, env2, ds[i], rel2, du, env', hE, fun σ3 rel3 _ => ?_⟩
        refine ⟨r2, t, S2, env', rel3, g2.bind.mono fun p S4 r4 H4 ex4 so4 g4 σ4 rel4 => ?_⟩
        obtain ⟨fl, env4⟩ := p
        cases fl with
        | nx => exact ⟨ds.length - (i + 1), by omega, rfl, hlt, r4, S4, env4, ex4.get hn2, rel4, g4⟩
        | ct => exact ⟨ds.length - (i + 1), by omega, rfl, hlt, r4, S4, env4, ex4.get hn2, rel4, g4⟩
        | bk => exact Good.here g4 so4 σ4 rel4
        | rt d => exact Good.here g4 so4 σ4 rel4
    · have e : i = ds.length := by omega
      subst e
      rw [List.drop_length] at g2
      unfold forGoC at g2
      obtain ⟨hS2, g2⟩ := g2.keepC
      obtain ⟨b, ys, eb, hb2, hys, z2⟩ := ref_lst rel2.so (.ref hn2) (lst_ref hS2)
      cases eb
      exact .inl ⟨⟨ys, .inl (.inl hys), by rw [z2.length]; exact Nat.le_refl _⟩, Good.here g2 rel2.so σ2 rel2⟩
  · exact (show False from g1).elim
end
theorem forGoC_all {n : Nat} {ds0 : List D} {g : DG} {b : DS} {P : Fl × Ev → Sto → Prop} (I : List D → Ev → Sto → Prop) : ∀ (ds : List D) (env : Ev) (S : Sto), I ds env S →
    (∀ ds env S, I ds env S → S[n]? = some (.lst ds0)) →
    (∀ d rest env S, I (d :: rest) env S → ∃ env1, g env d = some env1 ∧ Wp (b env1 S) fun p S' => match p.1 with | .nx => I rest p.2 S' | .ct => I rest p.2 S' | .bk => P (.nx, p.2) S' | .rt v => P (.rt v, p.2) S') →
    (∀ env S, I [] env S → P (.nx, env) S) → Wp (forGoC n ds0 g b ds env S) P
  | [], env, S, h, hk, _, hf => by
    unfold forGoC keepC
    rw [if_pos (hk _ _ _ h)]
    exact Wp.of rfl (hf env S h)
  | d :: ds, env, S, h, hk, hs, hf => by
    obtain ⟨env1, e1, w⟩ := hs d ds env S h
    unfold forGoC keepC
    rw [if_pos (hk _ _ _ h), e1]
    dsimp only
    rw [wp_bind]
    refine w.mono fun p S' q => ?_
    obtain ⟨fl, env2⟩ := p
    cases fl with
    | nx => exact forGoC_all I ds env2 S' q hk hs hf
    | ct => exact forGoC_all I ds env2 S' q hk hs hf
    | bk => exact Wp.of rfl q
    | rt v => exact Wp.of rfl q
def kForC (g : DG) (b : DS) (env : Ev) (P : Fl × Ev → Sto → Prop) (d : D) (S : Sto) : Prop := ∃ n ds, d = .ref n ∧ S[n]? = some (.lst ds) ∧ Wp (forGoC n ds g b ds env S) P
theorem w_ForC {f : DE} {g : DG} {b : DS} {env : Ev} {S : Sto} {P : Fl × Ev → Sto → Prop} (h : Wp (f env S) (kForC g b env P)) : Wp (sForC f g b env S) P := by
  unfold sForC
  rw [wp_bind]
  refine h.mono fun d S1 q => ?_
  obtain ⟨n, ds, e, hn, w⟩ := q
  subst e
  rw [lst_ref hn]
  exact w

/-! ### what a def gives back is changed no more -/
section
variable {K : PySem.W.Frag} {mg : Str → Option Value} {H H' : Hp} {r t nw : List Addr}
mutual
def ltD (k : Nat) : D → Bool
  | .tup ds => ltL k ds
  | .lst ds => ltL k ds
  | .fz ds => ltL k ds
  | .ref n => decide (n < k)
  | _ => true
def ltL (k : Nat) : List D → Bool
  | [] => true
  | d :: ds => ltD k d && ltL k ds
end
mutual
theorem Den.lt : ∀ (d : D) (v : V), Den K H r t v d → ltD r.length d = true
  | .non, _, _ => rfl
  | .bl _, _, _ => rfl
  | .int _, _, _ => rfl
  | .str _, _, _ => rfl
  | .ty _, _, _ => rfl
  | .tup ds, _, h => by cases h with | tup h z => exact DenL.lt ds _ z
  | .lst ds, _, h => by cases h with | lst h n m z => exact DenL.lt ds _ z
  | .fz ds, _, h => by cases h with | fz h z => exact DenL.lt ds _ z
  | .ref n, _, h => by cases h with | ref h => exact decide_eq_true (List.getElem?_eq_some_iff.mp h).1
theorem DenL.lt : ∀ (ds : List D) (vs : List V), DenL K H r t vs ds → ltL r.length ds = true
  | [], _, _ => rfl
  | d :: ds, _, h => by
    cases h with
    | cons h1 h2 =>
      show (ltD r.length d && ltL r.length ds) = true
      rw [Den.lt d _ h1, DenL.lt ds _ h2]
      rfl
end
mutual
theorem Den.back : ∀ (d : D) (v : V), Den K H (r ++ nw) t v d → ltD r.length d = true → Den K H r t v d
  | .non, _, h, _ => by cases h; exact .non
  | .bl b, _, h, _ => by cases h; exact .bl b
  | .int i, _, h, _ => by cases h; exact .int i
  | .str x, _, h, _ => by cases h; exact .str x
  | .ty n, _, h, _ => by cases h; exact .ty n
  | .tup ds, _, h, l => by cases h with | tup h z => exact .tup h (DenL.back ds _ z l)
  | .lst ds, _, h, l => by cases h with | lst h n m z => exact .lst h (fun q => n (List.mem_append_left _ q)) m (DenL.back ds _ z l)
  | .fz ds, _, h, l => by cases h with | fz h z => exact .fz h (DenL.back ds _ z l)
  | .ref n, _, h, l => by
    cases h with
    | ref h =>
      rw [List.getElem?_append_left (of_decide_eq_true l)] at h
      exact .ref h
theorem DenL.back : ∀ (ds : List D) (vs : List V), DenL K H (r ++ nw) t vs ds → ltL r.length ds = true → DenL K H r t vs ds
  | [], _, h, _ => by cases h; exact .nil
  | d :: ds, _, h, l => by
    have l' : (ltD r.length d && ltL r.length ds) = true := l
    rw [Bool.and_eq_true] at l'
    cases h with
    | cons h1 h2 => exact .cons (Den.back d _ h1 l'.1) (DenL.back ds _ h2 l'.2)
end
def ltC (k : Nat) : Cell → Bool
  | .lst ds => ltL k ds
  | .dK kvs => ltL k (kvs.map (·.2))
  | .dT kvs => ltL k (kvs.map (·.2))
  | .ins _ fs => ltL k (fs.map (·.2))
theorem CellOk.lt {a : Addr} {c : Cell} (h : CellOk K mg H r t a c) : ltC r.length c = true := by
  cases c with
  | lst ds => obtain ⟨xs, _, z⟩ := h; exact DenL.lt _ _ z
  | dK ds => obtain ⟨xs, _, z⟩ := h; exact DenL.lt _ _ z.2
  | dT ds => obtain ⟨xs, _, z⟩ := h; exact DenL.lt _ _ z.2
  | ins c fs => obtain ⟨C, dx, ps, _, _, _, z⟩ := h; exact DenL.lt _ _ z.2
theorem CellOk.back {a : Addr} {c : Cell} (h : CellOk K mg H (r ++ nw) t a c) (l : ltC r.length c = true) : CellOk K mg H r t a c := by
  cases c with
  | lst ds => obtain ⟨xs, h1, z⟩ := h; exact ⟨xs, h1, DenL.back _ _ z l⟩
  | dK ds => obtain ⟨xs, h1, z⟩ := h; exact ⟨xs, h1, z.1, DenL.back _ _ z.2 l⟩
  | dT ds => obtain ⟨xs, h1, z⟩ := h; exact ⟨xs, h1, z.1, DenL.back _ _ z.2 l⟩
  | ins c fs => obtain ⟨C, dx, ps, h1, h2, h3, z⟩ := h; exact ⟨C, dx, ps, h1, h2, h3, z.1, DenL.back _ _ z.2 l⟩
-- new lists are taken as they are
mutual
def mapD (go : Nat → Option D) : D → Option D
  | .tup ds => (mapL go ds).map .tup
  | .lst ds => (mapL go ds).map .lst
  | .fz ds => (mapL go ds).map .fz
  | .ref n => go n
  | d => some d
def mapL (go : Nat → Option D) : List D → Option (List D)
  | [] => some []
  | d :: ds => match mapD go d, mapL go ds with
    | some e, some es => some (e :: es)
    | _, _ => none
end
def rsv (k : Nat) (S : Sto) : Nat → Nat → Option D
  | 0, n => if n < k then some (.ref n) else none
  | f + 1, n => if n < k then some (.ref n) else match S[n]? with
    | some (.lst ds) => (mapL (rsv k S f) ds).map .lst
    | _ => none
mutual
theorem mapD_ok {go : Nat → Option D} (hg : ∀ n a d, (r ++ nw)[n]? = some a → go n = some d → Den K H r t (.ref a) d) : ∀ (d e : D) (v : V), Den K H (r ++ nw) t v d → mapD go d = some e → Den K H r t v e
  | .non, _, _, h, q => by cases h; cases q; exact .non
  | .bl b, _, _, h, q => by cases h; cases q; exact .bl b
  | .int i, _, _, h, q => by cases h; cases q; exact .int i
  | .str x, _, _, h, q => by cases h; cases q; exact .str x
  | .ty n, _, _, h, q => by cases h; cases q; exact .ty n
  | .tup ds, _, _, h, q => by
    obtain ⟨es, q1, q2⟩ := Option.map_eq_some_iff.mp (show (mapL go ds).map D.tup = some _ from q)
    subst q2
    cases h with | tup h z => exact .tup h (mapL_ok hg ds es _ z q1)
  | .lst ds, _, _, h, q => by
    obtain ⟨es, q1, q2⟩ := Option.map_eq_some_iff.mp (show (mapL go ds).map D.lst = some _ from q)
    subst q2
    cases h with | lst h n m z => exact .lst h (fun q => n (List.mem_append_left _ q)) m (mapL_ok hg ds es _ z q1)
  | .fz ds, _, _, h, q => by
    obtain ⟨es, q1, q2⟩ := Option.map_eq_some_iff.mp (show (mapL go ds).map D.fz = some _ from q)
    subst q2
    cases h with | fz h z => exact .fz h (mapL_ok hg ds es _ z q1)
  | .ref n, e, _, h, q => by cases h with | ref h => exact hg n _ e h q
theorem mapL_ok {go : Nat → Option D} (hg : ∀ n a d, (r ++ nw)[n]? = some a → go n = some d → Den K H r t (.ref a) d) : ∀ (ds es : List D) (vs : List V), DenL K H (r ++ nw) t vs ds → mapL go ds = some es → DenL K H r t vs es
  | [], _, _, h, q => by cases h; cases q; exact .nil
  | d :: ds, _, _, h, q => by
    unfold mapL at q
    split at q
    · rename_i e es q1 q2
      cases q
      cases h with
      | cons h1 h2 => exact .cons (mapD_ok hg d e _ h1 q1) (mapL_ok hg ds es _ h2 q2)
    · cases q
end
theorem rsv_ok {S : Sto} (so : SOk K mg H (r ++ nw) t S) : ∀ (f n : Nat) (a : Addr) (d : D), (r ++ nw)[n]? = some a → rsv r.length S f n = some d → Den K H r t (.ref a) d
  | 0, n, a, d, h, q => by
    unfold rsv at q
    split at q
    · rename_i hn
      cases q
      rw [List.getElem?_append_left hn] at h
      exact .ref h
    · cases q
  | f + 1, n, a, d, h, q => by
    unfold rsv at q
    split at q
    · rename_i hn
      cases q
      rw [List.getElem?_append_left hn] at h
      exact .ref h
    · rename_i hn
      split at q
      · rename_i ds hds
        obtain ⟨es, q1, q2⟩ := Option.map_eq_some_iff.mp q
        subst q2
        obtain ⟨xs, h1, z⟩ := so.ok n a _ h hds
        refine .lst h1 (fun z => ?_) (fun z => (so.hid a z).2 (List.mem_of_getElem? h)) (mapL_ok (rsv_ok so f) ds es xs z q1)
        obtain ⟨i, hi, e⟩ := List.getElem_of_mem z
        have e2 : (r ++ nw)[i]? = some a := by rw [List.getElem?_append_left hi, List.getElem?_eq_getElem hi, e]
        have := nodup_get so.nd e2 h
        omega
      · cases q
end
open Classical in
noncomputable def frzF (f : Fn) : Fn := fun ds S => match f ds S with
  | .ok d S1 => if ∀ j c, j < S.length → S1[j]? = some c → S[j]? = some c ∨ ltC S.length c = true then match mapD (rsv S.length S1 64) d with
      | some e => .ok e (S1.take S.length)
      | none => .bad
    else .bad
  | .exc c S1 => if ∀ j c, j < S.length → S1[j]? = some c → S[j]? = some c ∨ ltC S.length c = true then .exc c (S1.take S.length) else .bad
  | .bad => .bad
section
variable {K : PySem.W.Frag} {mg : Str → Option Value} {H H' : Hp} {r r' t : List Addr} {S S1 : Sto}
theorem so_drop (so : SOk K mg H r t S) (ex : Ext r H r' H') (so1 : SOk K mg H' r' t S1) (hc : ∀ j c, j < S.length → S1[j]? = some c → S[j]? = some c ∨ ltC S.length c = true) :
    ∃ nw, r' = r ++ nw ∧ Ext r H r H' ∧ SOk K mg H' r t (S1.take S.length) := by
  obtain ⟨nw, e, hn⟩ := ex.pre
  subst e
  have hl : (r ++ nw).length = S1.length := so1.len
  rw [List.length_append] at hl
  have hrl := so.len
  refine ⟨nw, rfl, ⟨⟨[], by simp⟩, ex.keep, ex.tups, ex.frzs, ex.owns, ex.there⟩, ⟨by rw [List.length_take]; omega, (List.nodup_append.mp so1.nd).1, fun n a c h1 h2 => ?_, fun a ha => ⟨(so1.hid a ha).1, fun z => (so1.hid a ha).2 (List.mem_append_left _ z)⟩⟩⟩
  have hn1 := (List.getElem?_eq_some_iff.mp h1).1
  rw [List.getElem?_take, if_pos (by omega)] at h2
  have ok := so1.ok n a c (by rw [List.getElem?_append_left hn1]; exact h1) h2
  refine ok.back ?_
  rcases hc n c (by omega) h2 with q | q
  · exact (so.ok n a c h1 q).lt
  · rw [hrl]; exact q
theorem spD_frz {n : Nat} {f : Fn} : ∀ vs H Q E, spD K mg n (frzF f) vs H Q E → spD K mg n f vs H Q E := fun vs H Q E q => by
  obtain ⟨h1, r, t, S, ds, so, z, g⟩ := q
  refine ⟨h1, r, t, S, ds, so, z, ?_⟩
  unfold frzF at g
  cases hf : f ds S with
  | bad => rw [hf] at g; exact (show False from g).elim
  | exc c S1 =>
    rw [hf] at g
    dsimp only at g
    intro C H1 r1 hC ex so1
    by_cases hc : ∀ j c, j < S.length → S1[j]? = some c → S[j]? = some c ∨ ltC S.length c = true
    · rw [if_pos hc] at g
      obtain ⟨nw, e, ex2, so2⟩ := so_drop so ex so1 hc
      exact g C H1 r hC ex2 so2
    · rw [if_neg hc] at g; exact (show False from g).elim
  | ok d S1 =>
    rw [hf] at g
    dsimp only at g
    intro H1 r1 ex so1 v dv
    by_cases hc : ∀ j c, j < S.length → S1[j]? = some c → S[j]? = some c ∨ ltC S.length c = true
    · rw [if_pos hc] at g
      obtain ⟨nw, e, ex2, so2⟩ := so_drop so ex so1 hc
      subst e
      split at g
      · rename_i e he
        refine g H1 r ex2 so2 v (mapD_ok (nw := nw) (rsv_ok so1 64) d e v dv ?_)
        rw [so.len]
        exact he
      · exact (show False from g).elim
    · rw [if_neg hc] at g; exact (show False from g).elim
theorem Callee.frz {P : Program} {w : World} {base : Heap} {CX : CXT} {k n : Nat} {x : Str} {fn : Fn} (c : Callee P w K mg base CX k x n fn) : Callee P w K mg base CX k x n (frzF fn) := by
  obtain ⟨f, fd, ps, F, a, b, d⟩ := c
  exact ⟨f, fd, ps, F.imp spD_frz, a, b, d⟩
end
theorem wp_frz {f : Fn} {ds : List D} {S : Sto} {P : D → Sto → Prop} (h : Wp (f ds S) fun d S1 => (∀ j c, j < S.length → S1[j]? = some c → S[j]? = some c ∨ ltC S.length c = true) ∧ ∃ e, mapD (rsv S.length S1 64) d = some e ∧ P e (S1.take S.length)) : Wp (frzF f ds S) P := by
  obtain ⟨d, S1, e, hc, e2, h2, p⟩ := h.get
  unfold frzF
  rw [e]
  dsimp only
  rw [if_pos hc, h2]
  exact Wp.of rfl p
-- a list of plain things stays what it is
mutual
theorem mapD_id {go : Nat → Option D} : ∀ d : D, ltD 0 d = true → mapD go d = some d
  | .non, _ => rfl
  | .bl _, _ => rfl
  | .int _, _ => rfl
  | .str _, _ => rfl
  | .ty _, _ => rfl
  | .tup ds, h => by show (mapL go ds).map D.tup = _; rw [mapL_id ds h]; rfl
  | .lst ds, h => by show (mapL go ds).map D.lst = _; rw [mapL_id ds h]; rfl
  | .fz ds, h => by show (mapL go ds).map D.fz = _; rw [mapL_id ds h]; rfl
  | .ref n, h => by exact absurd (of_decide_eq_true (show decide (n < 0) = true from h)) (Nat.not_lt_zero n)
theorem mapL_id {go : Nat → Option D} : ∀ ds : List D, ltL 0 ds = true → mapL go ds = some ds
  | [], _ => rfl
  | d :: ds, h => by
    have h' : (ltD 0 d && ltL 0 ds) = true := h
    rw [Bool.and_eq_true] at h'
    unfold mapL
    rw [mapD_id d h'.1, mapL_id ds h'.2]
end
end DL
end L2

set_option Elab.async false
set_option linter.all false
set_option maxRecDepth 100000
namespace L2
namespace DL
open PySem PySem.Spec PyProof.Rows

/-! ### equality of plain things -/
mutual
def plD : Nat → D → Bool
  | _, .non => true
  | _, .int _ => true
  | _, .str x => PyData.strOk x
  | n + 1, .tup ds => plL n ds
  | n + 1, .lst ds => plL n ds
  | _, _ => false
def plL : Nat → List D → Bool
  | _, [] => true
  | n, d :: ds => plD n d && plL n ds
end
mutual
def noB : PyData → Bool
  | .bool _ => false
  | .list xs => noBs xs
  | .tuple xs => noBs xs
  | .dict _ => false
  | _ => true
def noBs : List PyData → Bool
  | [] => true
  | x :: xs => noB x && noBs xs
end
structure PyOk (n : Nat) (p : PyData) : Prop where
  lay : p.canLay0 = true
  dep : p.depth ≤ n
  nob : noB p = true
structure PysOk (n : Nat) (ps : List PyData) : Prop where
  lay : PyData.canLayAll0 ps = true
  dep : PyData.depthAll ps ≤ n
  nob : noBs ps = true
mutual
theorem plD_py : ∀ (n : Nat) (d : D), plD n d = true → ∃ p, toPy d = some p ∧ PyOk n p
  | n, .non, _ => ⟨.none, rfl, rfl, Nat.zero_le _, rfl⟩
  | n, .int i, _ => ⟨.int i, rfl, rfl, Nat.zero_le _, rfl⟩
  | n, .str x, h => ⟨.str x, rfl, by cases n <;> exact h, Nat.zero_le _, rfl⟩
  | n + 1, .tup ds, h => by
    obtain ⟨ps, e, o⟩ := plL_py n ds h
    refine ⟨.tuple ps, ?_, o.lay, Nat.succ_le_succ o.dep, o.nob⟩
    unfold toPy
    rw [e]
  | n + 1, .lst ds, h => by
    obtain ⟨ps, e, o⟩ := plL_py n ds h
    refine ⟨.list ps, ?_, o.lay, Nat.succ_le_succ o.dep, o.nob⟩
    unfold toPy
    rw [e]
  | 0, .tup _, h => by cases h
  | 0, .lst _, h => by cases h
  | 0, .bl _, h => by cases h
  | _ + 1, .bl _, h => by cases h
  | 0, .fz _, h => by cases h
  | _ + 1, .fz _, h => by cases h
  | 0, .ref _, h => by cases h
  | _ + 1, .ref _, h => by cases h
  | 0, .ty _, h => by cases h
  | _ + 1, .ty _, h => by cases h
theorem plL_py : ∀ (n : Nat) (ds : List D), plL n ds = true → ∃ ps, toPyL ds = some ps ∧ PysOk n ps
  | n, [], _ => ⟨[], rfl, rfl, Nat.zero_le _, rfl⟩
  | n, d :: ds, h => by
    have h' : (plD n d && plL n ds) = true := h
    rw [Bool.and_eq_true] at h'
    obtain ⟨p, e1, o1⟩ := plD_py n d h'.1
    obtain ⟨ps, e2, o2⟩ := plL_py n ds h'.2
    refine ⟨p :: ps, ?_, ?_, Nat.max_le.mpr ⟨o1.dep, o2.dep⟩, ?_⟩
    · unfold toPyL
      rw [e1, e2]
    · show (p.canLay0 && PyData.canLayAll0 ps) = true
      rw [o1.lay, o2.lay]
      rfl
    · show (noB p && noBs ps) = true
      rw [o1.nob, o2.nob]
      rfl
end
mutual
theorem eqv_iff : ∀ p q : PyData, noB p = true → noB q = true → (PyData.eqv p q = true ↔ p = q)
  | .none, q, _, hq => by cases q <;> simp [PyData.eqv]
  | .int i, q, _, hq => by cases q <;> first | (cases hq; done) | simp [PyData.eqv]
  | .str i, q, _, hq => by cases q <;> first | (cases hq; done) | simp [PyData.eqv]
  | .list xs, q, hp, hq => by
    cases q with
    | list ys =>
      have := eqvs_iff xs ys hp hq
      simp only [PyData.eqv, this]
      exact ⟨fun h => by rw [h], fun h => PyData.list.inj h⟩
    | _ => first | (cases hq; done) | simp [PyData.eqv]
  | .tuple xs, q, hp, hq => by
    cases q with
    | tuple ys =>
      have := eqvs_iff xs ys hp hq
      simp only [PyData.eqv, this]
      exact ⟨fun h => by rw [h], fun h => PyData.tuple.inj h⟩
    | _ => first | (cases hq; done) | simp [PyData.eqv]
  | .bool _, _, h, _ => by cases h
  | .dict _, _, h, _ => by cases h
theorem eqvs_iff : ∀ xs ys : List PyData, noBs xs = true → noBs ys = true → (PyData.eqvAll xs ys = true ↔ xs = ys)
  | [], [], _, _ => by simp [PyData.eqvAll]
  | [], _ :: _, _, _ => by simp [PyData.eqvAll]
  | _ :: _, [], _, _ => by simp [PyData.eqvAll]
  | x :: xs, y :: ys, h, k => by
    have h' : (noB x && noBs xs) = true := h
    have k' : (noB y && noBs ys) = true := k
    rw [Bool.and_eq_true] at h' k'
    simp only [PyData.eqvAll, Bool.and_eq_true, eqv_iff x y h'.1 k'.1, eqvs_iff xs ys h'.2 k'.2, List.cons.injEq]
end
mutual
theorem toPy_inj : ∀ (n m : Nat) (d e : D) (p : PyData), plD n d = true → plD m e = true → toPy d = some p → toPy e = some p → d = e
  | n, m, .non, e, p, _, he, h1, h2 => by
    cases h1
    cases e <;> first | rfl | (cases h2; done) | (unfold toPy at h2; split at h2 <;> cases h2)
  | n, m, .int i, e, p, _, he, h1, h2 => by
    cases h1
    cases e <;> first | (cases h2; rfl) | (cases h2; done) | (unfold toPy at h2; split at h2 <;> cases h2)
  | n, m, .str i, e, p, _, he, h1, h2 => by
    cases h1
    cases e <;> first | (cases h2; rfl) | (cases h2; done) | (unfold toPy at h2; split at h2 <;> cases h2)
  | n + 1, m, .tup ds, e, p, hd, he, h1, h2 => by
    unfold toPy at h1
    split at h1
    · rename_i ps e1
      cases h1
      cases e with
      | tup es =>
        unfold toPy at h2
        split at h2
        · rename_i qs e2
          cases h2
          cases m with
          | zero => cases he
          | succ m => rw [toPyL_inj n m ds es _ hd he e1 e2]
        · cases h2
      | lst es => unfold toPy at h2; split at h2 <;> cases h2
      | fz es => unfold toPy at h2; split at h2 <;> cases h2
      | _ => cases h2
    · cases h1
  | n + 1, m, .lst ds, e, p, hd, he, h1, h2 => by
    unfold toPy at h1
    split at h1
    · rename_i ps e1
      cases h1
      cases e with
      | lst es =>
        unfold toPy at h2
        split at h2
        · rename_i qs e2
          cases h2
          cases m with
          | zero => cases he
          | succ m => rw [toPyL_inj n m ds es _ hd he e1 e2]
        · cases h2
      | tup es => unfold toPy at h2; split at h2 <;> cases h2
      | fz es => cases m <;> cases he
      | _ => cases h2
    · cases h1
  | 0, _, .tup _, _, _, h, _, _, _ => by cases h
  | 0, _, .lst _, _, _, h, _, _, _ => by cases h
  | 0, _, .bl _, _, _, h, _, _, _ => by cases h
  | _ + 1, _, .bl _, _, _, h, _, _, _ => by cases h
  | 0, _, .fz _, _, _, h, _, _, _ => by cases h
  | _ + 1, _, .fz _, _, _, h, _, _, _ => by cases h
  | 0, _, .ref _, _, _, h, _, _, _ => by cases h
  | _ + 1, _, .ref _, _, _, h, _, _, _ => by cases h
  | 0, _, .ty _, _, _, h, _, _, _ => by cases h
  | _ + 1, _, .ty _, _, _, h, _, _, _ => by cases h
theorem toPyL_inj : ∀ (n m : Nat) (ds es : List D) (ps : List PyData), plL n ds = true → plL m es = true → toPyL ds = some ps → toPyL es = some ps → ds = es
  | n, m, [], es, ps, _, _, h1, h2 => by
    cases h1
    cases es with
    | nil => rfl
    | cons e es => unfold toPyL at h2; split at h2 <;> cases h2
  | n, m, d :: ds, es, ps, hd, he, h1, h2 => by
    have hd' : (plD n d && plL n ds) = true := hd
    rw [Bool.and_eq_true] at hd'
    unfold toPyL at h1
    split at h1
    · rename_i p ps a1 a2
      cases h1
      cases es with
      | nil => cases h2
      | cons e es =>
        have he' : (plD m e && plL m es) = true := he
        rw [Bool.and_eq_true] at he'
        unfold toPyL at h2
        split at h2
        · rename_i q qs b1 b2
          cases h2
          rw [toPy_inj n m d e _ hd'.1 he'.1 a1 b1, toPyL_inj n m ds es _ hd'.2 he'.2 a2 b2]
        · cases h2
    · cases h1
end
theorem shaped_ok {p : PyData} (h : PyOk 64 p) : SeqAt.shaped p = true := by
  show (p.canLay0 && decide (p.depth ≤ 64)) = true
  rw [h.lay, decide_eq_true h.dep]
  rfl
open Classical in
theorem eqD_pl {S : Sto} {x y : D} (neg : Bool) (hx : plD 64 x = true) (hy : plD 64 y = true) : oEqD neg S x y = some (.bl (neg ^^ decide (x = y))) := by
  have tx : topD S x = x := by cases x <;> first | rfl | cases hx
  have ty : topD S y = y := by cases y <;> first | rfl | cases hy
  obtain ⟨p, e1, o1⟩ := plD_py 64 x hx
  obtain ⟨q, e2, o2⟩ := plD_py 64 y hy
  unfold oEqD
  rw [tx, ty, e1, e2]
  dsimp only
  rw [shaped_ok o1, shaped_ok o2, Bool.and_self, if_pos rfl]
  have : PyData.eqv p q = decide (x = y) := by
    rw [Bool.eq_iff_iff, eqv_iff p q o1.nob o2.nob, decide_eq_true_eq]
    exact ⟨fun h => toPy_inj 64 64 x y p hx hy e1 (by rw [e2, h]), fun h => by subst h; rw [e1] at e2; exact Option.some.inj e2⟩
  rw [this]
def compD : D → Bool
  | .tup _ => true
  | .lst _ => true
  | _ => false
open Classical in
theorem eq_pl {S : Sto} {x y : D} (hc : (compD x || compD y) = true) (hx : plD 64 x = true) (hy : plD 64 y = true) : oEq S x y = some (.bl (decide (x = y))) := by
  refine (orO_none ?_).trans ((eqD_pl false hx hy).trans (by rw [Bool.false_xor]))
  cases x <;> cases y <;> first | rfl | (cases hc; done) | (cases hx; done) | (cases hy; done)
open Classical in
theorem ne_pl {S : Sto} {x y : D} (hc : (compD x || compD y) = true) (hx : plD 64 x = true) (hy : plD 64 y = true) : oNe S x y = some (.bl (!decide (x = y))) := by
  refine (orO_none ?_).trans ((eqD_pl true hx hy).trans (by rw [Bool.true_xor]))
  cases x <;> cases y <;> first | rfl | (cases hc; done) | (cases hx; done) | (cases hy; done)
theorem plL_mem {n : Nat} : ∀ {ds : List D}, (∀ d ∈ ds, plD n d = true) → plL n ds = true
  | [], _ => by cases n <;> rfl
  | d :: ds, h => by
    have : plL n (d :: ds) = (plD n d && plL n ds) := by cases n <;> rfl
    rw [this, h d List.mem_cons_self, plL_mem fun d hd => h d (List.mem_cons_of_mem _ hd)]
    rfl
theorem plL_of {n : Nat} : ∀ {ds : List D}, plL n ds = true → ∀ d ∈ ds, plD n d = true
  | [], _, d, hd => by cases hd
  | x :: ds, h, d, hd => by
    have e : plL n (x :: ds) = (plD n x && plL n ds) := by cases n <;> rfl
    rw [e, Bool.and_eq_true] at h
    rcases List.mem_cons.mp hd with q | q
    · rw [q]; exact h.1
    · exact plL_of h.2 d q
open Classical in
theorem inD_pl {S : Sto} {x : D} {ys : List D} (neg : Bool) (hx : plD 64 x = true) (hy : plL 63 ys = true) : oInD neg S x (.lst ys) = some (.bl (neg ^^ decide (x ∈ ys))) := by
  obtain ⟨p, e1, o1⟩ := plD_py 64 x hx
  obtain ⟨qs, e2, o2⟩ := plL_py 63 ys hy
  have sq : SeqAt.shaped (.list qs) = true := shaped_ok ⟨o2.lay, Nat.succ_le_succ o2.dep, o2.nob⟩
  have e3 : toPy (topD S (.lst ys)) = some (.list qs) := by
    show toPy (.lst ys) = _
    unfold toPy
    rw [e2]
  unfold oInD
  rw [e1, e3]
  dsimp only
  rw [shaped_ok o1, sq, Bool.and_self, if_pos rfl]
  have : (qs.any fun z => PyData.eqv z p) = decide (x ∈ ys) := by
    clear sq e3
    rw [Bool.eq_iff_iff, decide_eq_true_eq]
    induction ys generalizing qs with
    | nil => cases e2; simp
    | cons y ys ih =>
      have hy' := plL_of hy
      unfold toPyL at e2
      split at e2
      · rename_i q qs b1 b2
        cases e2
        have hyy := hy' y List.mem_cons_self
        obtain ⟨q', c1, c2⟩ := plD_py 63 y hyy
        rw [b1] at c1
        cases c1
        have n2 := o2.nob
        have n2' : (noB q && noBs qs) = true := n2
        rw [Bool.and_eq_true] at n2'
        have o3 : PysOk 63 qs := by
          obtain ⟨l, d, _⟩ := o2
          have l' : (q.canLay0 && PyData.canLayAll0 qs) = true := l
          rw [Bool.and_eq_true] at l'
          exact ⟨l'.2, (Nat.max_le.mp d).2, n2'.2⟩
        have ih' := ih (plL_mem fun d hd => hy' d (List.mem_cons_of_mem _ hd)) qs b2 o3
        rw [List.any_cons, Bool.or_eq_true, ih', List.mem_cons, eqv_iff q p n2'.1 o1.nob]
        refine or_congr ⟨fun h => ?_, fun h => ?_⟩ Iff.rfl
        · exact toPy_inj 64 63 x y p hx hyy e1 (by rw [b1, h])
        · subst h; rw [b1] at e1; exact Option.some.inj e1
      · cases e2
  rw [this]
open Classical in
theorem in_pl {S : Sto} {x : D} {ys : List D} (neg : Bool) (hc : compD x = true) (hx : plD 64 x = true) (hy : plL 63 ys = true) : oIn neg S x (.lst ys) = some (.bl (neg ^^ decide (x ∈ ys))) := by
  refine (orO_none ?_).trans (orO_some (inD_pl neg hx hy))
  cases x <;> first | rfl | cases hc
/-- ints in a row of ints -/
theorem flDL_ints : ∀ ns : List Int, flDL (ns.map D.int) = some (ns.map V.int)
  | [] => rfl
  | n :: ns => by
    rw [List.map_cons]
    unfold flDL
    rw [flDL_ints ns]
    rfl
theorem inV_ints (i : Int) : ∀ ns : List Int, inV (.int i) (ns.map V.int) = decide (i ∈ ns)
  | [] => rfl
  | n :: ns => by
    show (eqV (.int n) (.int i) || inV (.int i) (ns.map V.int)) = _
    rw [inV_ints i ns]
    show (n == i || decide (i ∈ ns)) = _
    rw [Bool.eq_iff_iff, Bool.or_eq_true, decide_eq_true_eq, decide_eq_true_eq, beq_iff_eq, List.mem_cons]
    exact or_congr ⟨fun h => h.symm, fun h => h.symm⟩ Iff.rfl
theorem in_ints {S : Sto} {i : Int} {ns : List Int} (neg : Bool) : oIn neg S (.int i) (.tup (ns.map D.int)) = some (.bl (neg ^^ decide (i ∈ ns))) := by
  refine orO_some ?_
  show (flDL (ns.map D.int)).map _ = _
  rw [flDL_ints, Option.map_some, inV_ints]
  cases neg <;> simp
theorem plL_ints (n : Nat) (ns : List Int) : plL n (ns.map D.int) = true := plL_mem fun d hd => by
  obtain ⟨i, _, e⟩ := List.mem_map.mp hd
  subst e
  cases n <;> rfl
theorem plD_tupI (n : Nat) (ns : List Int) : plD (n + 1) (tupI ns) = true := plL_ints n ns
theorem plL_tupI (n : Nat) (nss : List (List Int)) : plL (n + 1) (nss.map tupI) = true := plL_mem fun d hd => by
  obtain ⟨i, _, e⟩ := List.mem_map.mp hd
  subst e
  exact plD_tupI n i
theorem tupI_inj {a b : List Int} (h : tupI a = tupI b) : a = b := by
  have := D.tup.inj h
  exact (List.map_inj_right (f := D.int) (fun _ _ h => D.int.inj h)).mp this
theorem tupI_mem {a : List Int} {nss : List (List Int)} : tupI a ∈ nss.map tupI ↔ a ∈ nss := by
  rw [List.mem_map]
  exact ⟨fun ⟨b, h, e⟩ => by rw [← tupI_inj e]; exact h, fun h => ⟨a, h, rfl⟩⟩
/-- lists of truths -/
theorem toPyL_bls : ∀ bs : List Bool, toPyL (bs.map D.bl) = some (bs.map PyData.bool)
  | [] => rfl
  | b :: bs => by
    rw [List.map_cons]
    unfold toPyL
    rw [toPyL_bls bs]
    rfl
theorem lay_bls : ∀ bs : List Bool, PyData.canLayAll0 (bs.map PyData.bool) = true ∧ PyData.depthAll (bs.map PyData.bool) = 0
  | [] => ⟨rfl, rfl⟩
  | b :: bs => ⟨by show (true && _) = true; rw [(lay_bls bs).1]; rfl, by show max 0 _ = 0; rw [(lay_bls bs).2]; rfl⟩
theorem eqv_bls : ∀ bs cs : List Bool, PyData.eqvAll (bs.map PyData.bool) (cs.map PyData.bool) = decide (bs = cs)
  | [], [] => rfl
  | [], _ :: _ => rfl
  | _ :: _, [] => rfl
  | b :: bs, c :: cs => by
    show ((b == c) && PyData.eqvAll (bs.map PyData.bool) (cs.map PyData.bool)) = _
    rw [eqv_bls bs cs, Bool.eq_iff_iff, Bool.and_eq_true, beq_iff_eq, decide_eq_true_eq, decide_eq_true_eq, List.cons.injEq]
theorem ne_bls (S : Sto) (bs cs : List Bool) : oNe S (.lst (bs.map D.bl)) (.lst (cs.map D.bl)) = some (.bl (!decide (bs = cs))) := by
  refine (orO_none rfl).trans ?_
  have sh : ∀ xs : List Bool, SeqAt.shaped (.list (xs.map PyData.bool)) = true := fun xs => by
    show (PyData.canLayAll0 _ && decide (PyData.depthAll _ + 1 ≤ 64)) = true
    rw [(lay_bls xs).1, (lay_bls xs).2]
    rfl
  have tp : ∀ xs : List Bool, toPy (topD S (.lst (xs.map D.bl))) = some (.list (xs.map PyData.bool)) := fun xs => by
    show toPy (.lst _) = _
    unfold toPy
    rw [toPyL_bls]
  unfold oEqD
  rw [tp, tp]
  dsimp only
  rw [sh, sh, Bool.and_self, if_pos rfl]
  show some (D.bl (true ^^ PyData.eqvAll _ _)) = _
  rw [eqv_bls, Bool.true_xor]
theorem ne_bls2 (S : Sto) (a b c d : Bool) : oNe S (.lst [.bl a, .bl b]) (.lst [.bl c, .bl d]) = some (.bl (!decide ([a, b] = [c, d]))) := ne_bls S [a, b] [c, d]
end DL
end L2

set_option Elab.async false
set_option linter.all false
set_option maxRecDepth 100000
namespace L2
namespace DL
open PySem PySem.Spec PyProof.Rows

/-! ### tuple(range(n)), list(range(n)) -/
def rgD (d : D) : Option (List D) := match d with
  | .int j => if -1000 ≤ j ∧ j ≤ 100000 then some (rngL 0 j.toNat) else none
  | _ => none
def dTupRg (fa : DE) : DE := fun env S => (fa env S).bind fun d S1 => lift ((rgD d).map .tup) S1
def dLstRg (fa : DE) : DE := fun env S => (fa env S).bind fun d S1 => lift ((rgD d).map .lst) S1
section
variable {X : Cx} {W : WX} {a : Expr} {fa : DE} {p p2 pos pos2 : Pos}
theorem rgV_den {K : PySem.W.Frag} {H : Hp} {r t : List Addr} (j : Int) : DenL K H r t (rgV 0 j) (rngL 0 j.toNat) := by
  unfold rgV rngL
  rw [Int.sub_zero]
  generalize List.range j.toNat = l
  induction l with
  | nil => exact .nil
  | cons x l ih => exact .cons (.int _) ih
theorem rgD_ok {d : D} {ds : List D} (h : rgD d = some ds) : ∃ j, d = .int j ∧ RgOk 0 j ∧ ds = rngL 0 j.toNat := by
  unfold rgD at h
  split at h
  · rename_i j
    split at h
    · rename_i hj
      cases h
      exact ⟨j, rfl, ⟨by omega, by omega, by omega, by omega, by omega⟩, rfl⟩
    · cases h
  · cases h
theorem de_tupRg (hg : Gl X "tuple") (hm : X.mg "tuple" = none) (hg2 : Gl X "range") (hm2 : X.mg "range" = none) (hc : X.calm = true) (ha : PE X a (tE X W fa)) (na : starEach [a] X.env = (false, eval a X.env) :: starEach [] X.env := by rfl)
    (na2 : starEach [(Expr.Call (.Name "range" p2) [a] [] pos2)] X.env = (false, eval (Expr.Call (.Name "range" p2) [a] [] pos2) X.env) :: starEach [] X.env := by rfl) : PE X (.Call (.Name "tuple" p) [.Call (.Name "range" p2) [a] [] pos2] [] pos) (tE X W (dTupRg fa)) := by
  refine PE.imp (pe_tupRg hc hg hm (prg_1 hg2 hm2 ha na) na2) fun σ H Q q => ?_
  obtain ⟨r, t, S, env, rel, g⟩ := q
  refine ⟨r, t, S, env, rel, g.bind.mono fun d S1 r1 H1 ex so g1 v dv => ?_⟩
  obtain ⟨e, e1, g2⟩ := g1.lift
  obtain ⟨ds, e2, e3⟩ := Option.map_eq_some_iff.mp e1
  subst e3
  obtain ⟨j, ed, ok, eds⟩ := rgD_ok e2
  subst ed eds
  cases dv
  refine ⟨j, rfl, ok, fun q hq => ?_⟩
  exact g2 _ r1 (Ext.new hq) (so.new hq) _ (.tup upd_same (DenL.ext (Ext.new (r := r1) hq) _ _ (rgV_den j)))
theorem de_lstRg (hg : Gl X "list") (hm : X.mg "list" = none) (hg2 : Gl X "range") (hm2 : X.mg "range" = none) (hc : X.calm = true) (ha : PE X a (tE X W fa)) (na : starEach [a] X.env = (false, eval a X.env) :: starEach [] X.env := by rfl)
    (na2 : starEach [(Expr.Call (.Name "range" p2) [a] [] pos2)] X.env = (false, eval (Expr.Call (.Name "range" p2) [a] [] pos2) X.env) :: starEach [] X.env := by rfl) : PE X (.Call (.Name "list" p) [.Call (.Name "range" p2) [a] [] pos2] [] pos) (tE X W (dLstRg fa)) := by
  refine PE.imp (pe_listRg hc hg hm (prg_1 hg2 hm2 ha na) na2) fun σ H Q q => ?_
  obtain ⟨r, t, S, env, rel, g⟩ := q
  refine ⟨r, t, S, env, rel, g.bind.mono fun d S1 r1 H1 ex so g1 v dv => ?_⟩
  obtain ⟨e, e1, g2⟩ := g1.lift
  obtain ⟨ds, e2, e3⟩ := Option.map_eq_some_iff.mp e1
  subst e3
  obtain ⟨j, ed, ok, eds⟩ := rgD_ok e2
  subst ed eds
  cases dv
  refine ⟨j, rfl, ok, fun q hq => ?_⟩
  have nn := notinNew so hq
  exact g2 _ r1 (Ext.new hq) (so.new hq) _ (.lst upd_same nn.1 nn.2 (DenL.ext (Ext.new (r := r1) hq) _ _ (rgV_den j)))
end
section
variable {env : Ev} {S : Sto} {P : D → Sto → Prop} {fa : DE} {x : D}
def kTupRg (P : D → Sto → Prop) (d : D) (S : Sto) : Prop := Wp (lift ((rgD d).map .tup) S) P
def kLstRg (P : D → Sto → Prop) (d : D) (S : Sto) : Prop := Wp (lift ((rgD d).map .lst) S) P
theorem w_TupRg : Wp (dTupRg fa env S) P = Wp (fa env S) (kTupRg P) := by unfold dTupRg; simp only [wp_bind]; rfl
theorem w_LstRg : Wp (dLstRg fa env S) P = Wp (fa env S) (kLstRg P) := by unfold dLstRg; simp only [wp_bind]; rfl
theorem k_TupRg : kTupRg P x S = Wp (lift ((rgD x).map .tup) S) P := rfl
theorem k_LstRg : kLstRg P x S = Wp (lift ((rgD x).map .lst) S) P := rfl
theorem rgD_int {j : Int} (h0 : -1000 ≤ j) (h : j ≤ 100000) : rgD (.int j) = some (rngL 0 j.toNat) := if_pos ⟨h0, h⟩
def kRev (P : D → Sto → Prop) (x : D) (S : Sto) : Prop := Wp (lift (oRev S x) S) P
theorem w_Rev : Wp (dRev fa env S) P = Wp (fa env S) (kRev P) := by unfold dRev; simp only [wp_bind]; rfl
theorem k_Rev : kRev P x S = Wp (lift (oRev S x) S) P := rfl
theorem rev_tup (S : Sto) (ds : List D) : oRev S (.tup ds) = some (.tup ds.reverse) := rfl
theorem rev_lst (S : Sto) (ds : List D) : oRev S (.lst ds) = some (.lst ds.reverse) := rfl
end
end DL
end L2

set_option Elab.async false
set_option linter.all false
set_option maxRecDepth 100000
namespace L2
namespace DL
open PySem PySem.Spec PyProof.Rows

/-! ### tables -/
section
variable {κ : Type} [DecidableEq κ]
def valD (kvs : List (κ × D)) (k : κ) : Option D := (kvs.find? fun kv => decide (kv.1 = k)).map (·.2)
def putD (kvs : List (κ × D)) (k : κ) (v : D) : List (κ × D) := if (kvs.any fun kv => decide (kv.1 = k)) = true then kvs.map (fun kv => if kv.1 = k then (kv.1, v) else kv) else kvs ++ [(k, v)]
variable {K : PySem.W.Frag} {H : Hp} {r t : List Addr}
theorem DenP.split {p : κ × V} {ps : List (κ × V)} {ds : List (κ × D)} (h : DenP K H r t (p :: ps) ds) : ∃ d es, ds = (p.1, d) :: es ∧ Den K H r t p.2 d ∧ DenP K H r t ps es := by
  obtain ⟨h1, h2⟩ := h
  cases ds with
  | nil => cases h1
  | cons e es =>
    obtain ⟨k, d⟩ := e
    rw [List.map_cons, List.map_cons] at h1
    obtain ⟨e1, e2⟩ := List.cons.inj h1
    cases e1
    rw [List.map_cons, List.map_cons] at h2
    cases h2 with
    | cons a b => exact ⟨d, es, rfl, a, e2, b⟩
theorem DenP.nil0 : DenP K H r t ([] : List (κ × V)) [] := ⟨rfl, .nil⟩
theorem DenP.cons0 {k : κ} {v : V} {d : D} {ps : List (κ × V)} {ds : List (κ × D)} (h : Den K H r t v d) (z : DenP K H r t ps ds) : DenP K H r t ((k, v) :: ps) ((k, d) :: ds) := by
  refine ⟨?_, ?_⟩
  · rw [List.map_cons, List.map_cons, z.1]
  · rw [List.map_cons, List.map_cons]
    exact .cons h z.2
theorem DenP.nilD {ds : List (κ × D)} (h : DenP K H r t ([] : List (κ × V)) ds) : ds = [] := by
  cases ds with
  | nil => rfl
  | cons e es => exact absurd h.1 (by simp)
theorem DenP.len : ∀ {ps : List (κ × V)} {ds : List (κ × D)}, DenP K H r t ps ds → ps.length = ds.length
  | _, _, h => by
    have := congrArg List.length h.1
    rw [List.length_map, List.length_map] at this
    exact this
theorem DenP.val (k : κ) : ∀ {ps : List (κ × V)} {ds : List (κ × D)}, DenP K H r t ps ds → (∀ d, valD ds k = some d → ∃ v, valV ps k = some v ∧ Den K H r t v d) ∧ (valV ps k).isSome = (valD ds k).isSome
  | [], ds, h => by rw [h.nilD]; exact ⟨fun d e => (by cases e), rfl⟩
  | p :: ps, ds, h => by
    obtain ⟨d, es, e, hd, hp⟩ := h.split
    subst e
    obtain ⟨ih1, ih2⟩ := DenP.val k hp
    by_cases e : p.1 = k
    · have q : valD ((p.1, d) :: es) k = some d := by simp [valD, List.find?_cons, e]
      rw [valV_pos e, q]
      exact ⟨fun d' e' => by cases e'; exact ⟨_, rfl, hd⟩, rfl⟩
    · have q : valD ((p.1, d) :: es) k = valD es k := by simp [valD, List.find?_cons, e]
      rw [valV_neg e, q]
      exact ⟨ih1, ih2⟩
theorem DenP.any (k : κ) : ∀ {ps : List (κ × V)} {ds : List (κ × D)}, DenP K H r t ps ds → (ps.any fun kv => decide (kv.1 = k)) = ds.any fun kv => decide (kv.1 = k)
  | [], ds, h => by rw [h.nilD]; rfl
  | p :: ps, ds, h => by
    obtain ⟨d, es, e, hd, hp⟩ := h.split
    subst e
    rw [List.any_cons, List.any_cons, DenP.any k hp]
theorem DenP.repl (k : κ) {v : V} {d : D} (hv : Den K H r t v d) : ∀ {ps : List (κ × V)} {ds : List (κ × D)}, DenP K H r t ps ds → DenP K H r t (ps.map fun kv => if kv.1 = k then (kv.1, v) else kv) (ds.map fun kv => if kv.1 = k then (kv.1, d) else kv)
  | [], ds, h => by rw [h.nilD]; exact .nil0
  | p :: ps, ds, h => by
    obtain ⟨d', es, e, hd, hp⟩ := h.split
    subst e
    rw [List.map_cons, List.map_cons]
    by_cases e : p.1 = k
    · rw [if_pos e, if_pos (show (p.1, d').1 = k from e)]
      exact .cons0 hv (DenP.repl k hv hp)
    · rw [if_neg e, if_neg (show ¬ (p.1, d').1 = k from e)]
      exact .cons0 hd (DenP.repl k hv hp)
theorem DenP.snoc {k : κ} {v : V} {d : D} (hv : Den K H r t v d) : ∀ {ps : List (κ × V)} {ds : List (κ × D)}, DenP K H r t ps ds → DenP K H r t (ps ++ [(k, v)]) (ds ++ [(k, d)])
  | [], ds, h => by rw [h.nilD]; exact .cons0 hv .nil0
  | p :: ps, ds, h => by
    obtain ⟨d', es, e, hd, hp⟩ := h.split
    subst e
    exact .cons0 hd (DenP.snoc hv hp)
theorem DenP.put (k : κ) {v : V} {d : D} {ps : List (κ × V)} {ds : List (κ × D)} (h : DenP K H r t ps ds) (hv : Den K H r t v d) : DenP K H r t (putK ps k v) (putD ds k d) := by
  unfold putK putD
  rw [h.any k]
  by_cases q : (ds.any fun kv => decide (kv.1 = k)) = true
  · rw [if_pos q, if_pos q]; exact h.repl k hv
  · rw [if_neg q, if_neg q]; exact h.snoc hv
end
/-- a key -/
def keyD : D → Option Key
  | .int i => some (.inl i)
  | .str x => some (.inr x)
  | _ => none
def keyDL : List D → Option (List Key)
  | [] => some []
  | d :: ds => match keyD d, keyDL ds with
    | some k, some ks => some (k :: ks)
    | _, _ => none
def kD : Key → D
  | .inl i => .int i
  | .inr x => .str x
section
variable {K : PySem.W.Frag} {mg : Str → Option Value} {H : Hp} {r t : List Addr} {S : Sto}
theorem keyD_ok {d : D} {v : V} {k : Key} (dv : Den K H r t v d) (h : keyD d = some k) : v = kV k := by
  cases dv <;> first | (cases h; rfl) | cases h
theorem keyDL_ok : ∀ {ds : List D} {vs : List V} {ks : List Key}, DenL K H r t vs ds → keyDL ds = some ks → vs = ks.map kV
  | [], _, _, .nil, h => by cases h; rfl
  | d :: ds, _, _, .cons h1 h2, h => by
    unfold keyDL at h
    split at h
    · rename_i k ks e1 e2
      cases h
      rw [keyD_ok h1 e1, keyDL_ok h2 e2]
      rfl
    · cases h
theorem kD_den (k : Key) : Den K H r t (kV k) (kD k) := by
  cases k with
  | inl i => exact .int i
  | inr x => exact .str x
theorem kDL_den : ∀ ks : List Key, DenL K H r t (ks.map kV) (ks.map kD)
  | [] => .nil
  | k :: ks => .cons (kD_den k) (kDL_den ks)
/-- what the table at d holds at a key: none where d is no table or the key no key -/
def getT (S : Sto) (d y : D) : Option (Option D) := match d with
  | .ref n => match S[n]?, y with
    | some (.dT kvs), .tup ds => (keyDL ds).map fun ks => valD kvs ks
    | some (.dK kvs), y => (keyD y).map fun k => valD kvs k
    | _, _ => none
  | _ => none
theorem getT_ok {d y : D} {v u : V} {o : Option D} (so : SOk K mg H r t S) (dv : Den K H r t v d) (dy : Den K H r t u y) (h : getT S d y = some o) :
    ∃ a ov, v = .ref a ∧ DGet H a u ov ∧ ov.isSome = o.isSome ∧ ∀ e, o = some e → ∃ w, ov = some w ∧ Den K H r t w e := by
  unfold getT at h
  split at h
  · rename_i n
    cases dv with
    | @ref a n hn =>
      split at h
      · rename_i kvs ds hS
        obtain ⟨ks, h1, h2⟩ := Option.map_eq_some_iff.mp h
        subst h2
        obtain ⟨ps, hp, z⟩ := so.ok n a _ hn hS
        cases dy with
        | tup ht zt =>
          rw [keyDL_ok zt h1] at ht
          obtain ⟨q1, q2⟩ := z.val ks
          exact ⟨a, _, rfl, DGet.t hp ht, q2, fun e he => q1 e he⟩
      · rename_i kvs y hS
        obtain ⟨k, h1, h2⟩ := Option.map_eq_some_iff.mp h
        subst h2
        obtain ⟨ps, hp, z⟩ := so.ok n a _ hn hS
        obtain ⟨q1, q2⟩ := z.val k
        rw [keyD_ok dy h1]
        exact ⟨a, _, rfl, DGet.k hp, q2, fun e he => q1 e he⟩
      · cases h
  · cases h
def oInT (neg : Bool) : Sto → D → D → Option D := fun S x y => (getT S y x).map fun o => .bl (neg ^^ o.isSome)
end
section
variable {X : Cx} {W : WX} {E : XK} {o e i k : Expr} {fo fa fi fe fk : DE} {pos pos' : Pos}
theorem or_dIn (hu : X.A.units + 1 < cLine) : OpR X (compareOp .In) (fun x y H Q => ∃ a o, y = .ref a ∧ DGet H a x o ∧ Q (.bl o.isSome) H) := by
  intro pins s σ H x y v u Q I rx ry h
  obtain ⟨a, o, ey, g, q⟩ := h
  subst ey
  cases ry
  exact d_in hu I g rx fun s3 I3 => ⟨.bl o.isSome, H, I3, rfl, q⟩
theorem or_dNotIn (hu : X.A.units + 1 < cLine) : OpR X (compareOp .NotIn) (fun x y H Q => ∃ a o, y = .ref a ∧ DGet H a x o ∧ Q (.bl (!o.isSome)) H) := by
  intro pins s σ H x y v u Q I rx ry h
  obtain ⟨a, o, ey, g, q⟩ := h
  subst ey
  cases ry
  exact d_notIn hu I g rx fun s3 I3 => ⟨.bl (!o.isSome), H, I3, rfl, q⟩
theorem od_inT (hu : X.A.units + 1 < cLine) : OpD X (compareOp .In) (oInT false) := by
  refine ⟨_, or_dIn hu, fun r t S H x y v u d Q so dx dy e q => ?_⟩
  obtain ⟨o, e1, e2⟩ := Option.map_eq_some_iff.mp e
  subst e2
  obtain ⟨a, ov, ev, g, h1, _⟩ := getT_ok so dy dx e1
  refine ⟨a, ov, ev, g, q _ _ (Ext.refl _ _) so ?_⟩
  rw [h1, Bool.false_xor]
  exact .bl _
theorem od_notInT (hu : X.A.units + 1 < cLine) : OpD X (compareOp .NotIn) (oInT true) := by
  refine ⟨_, or_dNotIn hu, fun r t S H x y v u d Q so dx dy e q => ?_⟩
  obtain ⟨o, e1, e2⟩ := Option.map_eq_some_iff.mp e
  subst e2
  obtain ⟨a, ov, ev, g, h1, _⟩ := getT_ok so dy dx e1
  refine ⟨a, ov, ev, g, q _ _ (Ext.refl _ _) so ?_⟩
  rw [h1, Bool.true_xor]
  exact .bl _
/-- d[y] -/
def oGetT : Sto → D → D → Option D := fun S x y => (getT S x y).bind id
theorem de_getT (hu : X.A.units + 1 < cLine) (ho : PE X o (tE X W fo)) (hi : PE X i (tE X W fi)) (hs : NoSl i) : PE X (.Subscript o i pos) (tE X W (dBin oGetT fo fi)) := by
  refine PE.imp (pe_dget hu ho hi hs) fun σ H Q q => tE_two q fun r t S env x y v u H' rel dx dy g => ?_
  obtain ⟨d, e, g⟩ := g.lift
  obtain ⟨od, e1, e2⟩ := Option.bind_eq_some_iff.mp e
  obtain ⟨a, ov, ev, gg, _, h2⟩ := getT_ok rel.so dx dy e1
  obtain ⟨w, e3, dw⟩ := h2 d e2
  rw [e3] at gg
  exact ⟨a, w, ev, gg, g.here rel.so w dw⟩
/-- d[y] = v -/
def putT (S : Sto) (x y v : D) : Option Sto := match x with
  | .ref n => match S[n]?, y with
    | some (.dT kvs), .tup ds => if kvs.length < sizeLine then (keyDL ds).map fun ks => S.set n (.dT (putD kvs ks v)) else none
    | some (.dK kvs), y => if kvs.length < sizeLine then (keyD y).map fun k => S.set n (.dK (putD kvs k v)) else none
    | _, _ => none
  | _ => none
theorem putT_ok {K : PySem.W.Frag} {mg : Str → Option Value} {H : Hp} {r t : List Addr} {S S' : Sto} {x y d : D} {v u w : V} (so : SOk K mg H r t S) (dx : Den K H r t v x) (dy : Den K H r t u y) (dd : Den K H r t w d) (h : putT S x y d = some S') :
    ∃ a H', v = .ref a ∧ DPut H a u w H' ∧ Ext r H r H' ∧ SOk K mg H' r t S' := by
  unfold putT at h
  split at h
  · rename_i n
    cases dx with
    | @ref a n hn =>
      split at h
      · rename_i kvs ds hS
        split at h
        · rename_i hl
          obtain ⟨ks, h1, h2⟩ := Option.map_eq_some_iff.mp h
          subst h2
          obtain ⟨ps, hp, z⟩ := so.ok n a _ hn hS
          cases dy with
          | tup ht zt =>
            rw [keyDL_ok zt h1] at ht
            have ex : Ext r H r (upd H a (.dT (putK ps ks w))) := Ext.write hp trivial (List.mem_of_getElem? hn)
            exact ⟨a, _, rfl, DPut.t hp ht (by rw [z.len]; exact hl), ex, so.write hn ⟨_, upd_same, DenP.ext ex (z.put ks dd)⟩⟩
        · cases h
      · rename_i kvs y hS
        split at h
        · rename_i hl
          obtain ⟨k, h1, h2⟩ := Option.map_eq_some_iff.mp h
          subst h2
          obtain ⟨ps, hp, z⟩ := so.ok n a _ hn hS
          rw [keyD_ok dy h1]
          have ex : Ext r H r (upd H a (.dK (putK ps k w))) := Ext.write hp trivial (List.mem_of_getElem? hn)
          exact ⟨a, _, rfl, DPut.k hp (by rw [z.len]; exact hl), ex, so.write hn ⟨_, upd_same, DenP.ext ex (z.put k dd)⟩⟩
        · cases h
      · cases h
  · cases h
def sPutT (fo fi fe : DE) : DS := fun env S => (fe env S).bind fun y S1 => (fo env S1).bind fun x S2 => (fi env S2).bind fun i S3 => match putT S3 x i y with
  | some S4 => .ok (.nx, env) S4
  | none => .bad
theorem ds_putT (hu : X.A.units + 1 < cLine) (ho : PE X o (tE X (WC E) fo)) (hi : PE X i (tE X (WC E) fi)) (hv : PE X e (tE X (WC E) fe)) (hs : swapsWith e (some (.Subscript o i pos')) pos.line X.env = pure false := by rfl) : PS X (.Assign [.Subscript o i pos'] e pos) (tS X E (sPutT fo fi fe)) := by
  refine PS.imp (ps_dput hu ho hi hv hs) fun D σ H q => ?_
  obtain ⟨r, t, S, env, rel, g⟩ := q
  refine ⟨r, t, S, env, rel, g.bind.mono fun y S1 r1 H1 ex so g1 yv dy => ?_⟩
  have rel1 := rel.ext ex so
  refine ⟨r1, t, S1, env, rel1, g1.bind.mono fun x S2 r2 H2 ex2 so2 g2 xv dx => ?_⟩
  have rel2 := rel1.ext ex2 so2
  refine ⟨r2, t, S2, env, rel2, g2.bind.mono fun id S3 r3 H3 ex3 so3 g3 iv div => ?_⟩
  split at g3
  · rename_i S4 hp
    obtain ⟨a, H4, ev, gp, ex4, so4⟩ := putT_ok so3 (Den.ext ex3 _ _ dx) div (Den.ext (ex2.trans ex3) _ _ dy) hp
    exact ⟨a, H4, ev, gp, g3 _ r3 ex4 so4 σ ((rel2.ext ex3 so3).ext ex4 so4)⟩
  · exact (show False from g3).elim
/-- len(d), list(d) -/
def oLenT : Sto → List D → Option D := fun S ds => match ds with
  | [.ref n] => match S[n]? with
    | some (.dT kvs) => some (.int kvs.length)
    | some (.dK kvs) => some (.int kvs.length)
    | _ => none
  | _ => none
theorem cd_lenT : CallD X (.builtin "len") oLenT := by
  refine ⟨_, CallR.or call_len_dT call_lenD, fun r t S H ds vs d Q so dv e q => ?_⟩
  unfold oLenT at e
  split at e
  · cases dv with
    | cons d1 d2 =>
      cases d2
      cases d1 with
      | @ref a n hn =>
        split at e
        · rename_i kvs hS
          cases e
          obtain ⟨ps, hp, z⟩ := so.ok _ a _ hn hS
          refine .inl ⟨a, ps, rfl, hp, ?_⟩
          rw [z.len]
          exact q _ _ (Ext.refl _ _) so (.int _)
        · rename_i kvs hS
          cases e
          obtain ⟨ps, hp, z⟩ := so.ok _ a _ hn hS
          refine .inr ⟨a, ps, rfl, hp, ?_⟩
          rw [z.len]
          exact q _ _ (Ext.refl _ _) so (.int _)
        · cases e
  · cases e
def oLenA : Sto → List D → Option D := orC oLen oLenT
theorem cd_lenA : CallD X (.builtin "len") oLenA := cd_len.or cd_lenT
def oListT : Sto → List D → Option D := fun S ds => match ds with
  | [.ref n] => match S[n]? with
    | some (.dT kvs) => some (.lst (kvs.map fun kv => .tup (kv.1.map kD)))
    | _ => none
  | _ => none
theorem keys_den {K : PySem.W.Frag} {H : Hp} {r t : List Addr} {ps : List (List Key × V)} {bs : List Addr} (h : IsKeys H ps bs) : ∀ {ds : List (List Key × D)}, ps.map (·.1) = ds.map (·.1) → DenL K H r t (bs.map V.ref) (ds.map fun kv => D.tup (kv.1.map kD)) := by
  unfold IsKeys at h
  induction h with
  | nil =>
    intro ds e
    cases ds with
    | nil => exact .nil
    | cons d ds => cases e
  | cons h1 h2 ih =>
    intro ds e
    cases ds with
    | nil => cases e
    | cons d ds =>
      rw [List.map_cons, List.map_cons] at e
      obtain ⟨e1, e2⟩ := List.cons.inj e
      refine .cons (.tup (by rw [← e1]; exact h1) (kDL_den _)) (ih e2)
theorem cd_listT (hc : X.calm = true) : CallD X (.type "list") oListT := by
  refine ⟨_, call_list_dT hc, fun r t S H ds vs d Q so dv e q => ?_⟩
  unfold oListT at e
  split at e
  · cases dv with
    | cons d1 d2 =>
      cases d2
      cases d1 with
      | @ref a n hn =>
        split at e
        · rename_i kvs hS
          cases e
          obtain ⟨ps, hp, z⟩ := so.ok _ a _ hn hS
          exact ⟨a, ps, rfl, .inl hp, fun p bs hn0 hk => newL so hn0 (keys_den hk z.1) q⟩
        · cases e
  · cases e
def oListA : Sto → List D → Option D := orC oListC oListT
theorem cd_listA (hc : X.calm = true) : CallD X (.type "list") oListA := cd_list.or (cd_listT hc)
end
end DL
end L2

set_option Elab.async false
set_option linter.all false
set_option maxRecDepth 100000
namespace L2
open PySem PySem.Spec PyProof.Rows
section
variable {X : Cx}
/-- {k: v}, k a tuple; the new dict stands empty while the pair is made -/
def tDisp1T (tk tv : TE) : TE := fun σ H Q => ∀ p, H p = none → tk σ (upd H p (.dT [])) fun x H1 => tv σ H1 fun y H2 => H2 p = some (.dT []) ∧ ∃ (b : Addr) (ks : List Key), x = .ref b ∧ H2 b = some (.tup (ks.map kV)) ∧ Q (.ref p) (upd H2 p (.dT [(ks, y)]))
theorem pe_disp1T {k v : Expr} {tk tv : TE} {pos : Pos} (hu : X.A.units + 1 < cLine) (hk : PE X k tk) (hv : PE X v tv) : PE X (.Dict [some k] [v] pos) (tDisp1T tk tv) := by
  refine ⟨fun pins s σ H Q I q => ?_⟩
  have hn := I.hok.fresh (Nat.le_refl s.heap.objs.size)
  have I1 := I.laid (a := s.heap.objs.size) (o := .dT []) (h' := s.heap.push { cls := .type "dict", data := .dict #[] }) (t' := s.toks) (fun _ _ q => Heap.get?_push_of_some _ q) (Nat.le_refl _) (dt_empty s.heap I.big)
  rw [arm_eval_Dict, zip_pairTrees [some k] [v] X.env pos rfl rfl, dictDisplay_pairs (pairTrees [some k] [v] X.env pos) (by unfold pairTrees; exact fun z => by cases z) (by show 1 < 17; decide)]
  refine wpAny_bind (wpAny_standAt (wpAny_bind ?_))
  refine wpAny_subDictH (knd := tupleKind (mixKind X.prog X.w)) (Q := fun d s' => wpAny (model X.prog X.w) X.A (pure (Value.ref d)) (EP X pins σ Q) X.xe s') (show X.A.units < cLine by omega) (by show 1 ≤ 15; decide) ?_
  have pps : PPs X pos [some k] [v] [(tk, tv)] := pps_cons hk hv pps_nil
  refine thn (pps.run pins _ σ _ (fun ps H2 => match ps with
    | [(x, y)] => H2 s.heap.objs.size = some (.dT []) ∧ ∃ (b : Addr) (ks : List Key), x = .ref b ∧ H2 b = some (.tup (ks.map kV)) ∧ Q (.ref s.heap.objs.size) (upd H2 s.heap.objs.size (.dT [(ks, y)]))
    | _ => False) I1 (q _ hn)) fun ws s2 ⟨ps, H2, I2, rel, qq⟩ => ?_
  match ps, rel, qq with
  | [(x, y)], rel, qq =>
    obtain ⟨e, b, ks, ex, hb, q2⟩ := qq
    subst ex
    cases rel with
    | @cons _ w2 _ ws2 hw t =>
      cases t
      obtain ⟨u1, u2⟩ := w2
      obtain ⟨r1, r2⟩ := hw
      obtain rfl : u1 = Value.ref b := r1
      obtain ⟨z, hd, xs, rel0, dd⟩ := dt_of I2.hok e
      cases rel0
      refine ⟨[(ks, b, u2)], ⟨rfl, rfl, key_of I2.hok hb, trivial⟩, dd, fun h' tk' dd' hs => wpAny_pure ?_⟩
      obtain ⟨o, es, ep, hq, h2, h3, h4, _, h5⟩ := dd'
      refine ⟨.ref s.heap.objs.size, _, ?_, rfl, q2⟩
      refine d_write I2 (by rw [e]; exact True.intro) hs ⟨o, hq⟩ ⟨by rw [sizeLine_eq]; show 1 ≤ _; omega, hd, _, (Paired.cons ⟨rfl, ?_, r2⟩ Paired.nil : KT _ [(ks, y)] [(ks, b, u2)]), o, es, ep, hq, h2, h3, h4, h5⟩
      show upd H2 s.heap.objs.size _ b = _
      rw [upd_ne (ne_of hb e (fun z => nomatch z))]
      exact hb
end
end L2
namespace L2
namespace DL
open PySem PySem.Spec PyProof.Rows
theorem hu1 {A : Around} {k : Nat} (hr : Room k A) : A.units + 1 < cLine := by have := hr.un; omega
def dDisp1T (fk fv : DE) : DE := fun env S => (fk env (S ++ [.dT []])).bind fun x S1 => (fv env S1).bind fun y S2 => match x, S2[S.length]? with
  | .tup ds, some (.dT []) => match keyDL ds with
    | some ks => .ok (.ref S.length) (S2.set S.length (.dT [(ks, y)]))
    | none => .bad
  | _, _ => .bad
section
variable {X : Cx} {W : WX} {k v : Expr} {fk fv : DE} {pos : Pos}
theorem de_disp1T (hu : X.A.units + 1 < cLine) (hk : PE X k (tE X W fk)) (hv : PE X v (tE X W fv)) : PE X (.Dict [some k] [v] pos) (tE X W (dDisp1T fk fv)) := by
  refine PE.imp (pe_disp1T hu hk hv) fun σ H Q q p hp => ?_
  obtain ⟨r, t, S, env, rel, g⟩ := q
  have ex0 : Ext r H (r ++ [p]) (upd H p (.dT [])) := Ext.grow hp
  obtain ⟨so0, d0⟩ := growC (o := .dT []) (c := .dT []) rel.so hp ⟨[], upd_same, rfl, .nil⟩
  have hlen : (r ++ [p])[S.length]? = some p := by rw [← rel.so.len, List.getElem?_append_right (Nat.le_refl _), Nat.sub_self]; rfl
  refine ⟨r ++ [p], t, S ++ [.dT []], env, rel.ext ex0 so0, (g.ext ex0).bind.mono fun x S1 r1 H1 ex so g1 xv dx => ?_⟩
  have rel1 := (rel.ext ex0 so0).ext ex so
  refine ⟨r1, t, S1, env, rel1, g1.bind.mono fun y S2 r2 H2 ex2 so2 g2 yv dy => ?_⟩
  split at g2
  · rename_i ds hS2
    split at g2
    · rename_i ks hks
      have hn2 : r2[S.length]? = some p := ex2.get (ex.get hlen)
      obtain ⟨ps, hp2, z⟩ := so2.ok _ p _ hn2 hS2
      have eps : ps = [] := by
        have := z.len
        exact List.length_eq_zero_iff.mp this
      subst eps
      have dx2 := Den.ext ex2 _ _ dx
      cases dx2 with
      | @tup a xs ds ht zt =>
        rw [keyDL_ok zt hks] at ht
        have ex3 : Ext r2 H2 r2 (upd H2 p (.dT [(ks, yv)])) := Ext.write hp2 trivial (List.mem_of_getElem? hn2)
        have so3 := so2.write (o := .dT [(ks, yv)]) hn2 (c := .dT [(ks, y)]) ⟨[(ks, yv)], upd_same, DenP.ext ex3 (DenP.cons0 dy DenP.nil0)⟩
        exact ⟨hp2, a, ks, rfl, ht, g2 _ r2 ex3 so3 _ (.ref hn2)⟩
    · exact (show False from g2).elim
  · exact (show False from g2).elim
end
section
variable {env : Ev} {S : Sto} {P : D → Sto → Prop} {PF : Fl × Ev → Sto → Prop} {fk fv fo fi fe : DE} {x y o : D} {n : Nat}
def kDi1 (fv : DE) (n : Nat) (env : Ev) (P : D → Sto → Prop) (x : D) (S : Sto) : Prop := Wp (fv env S) fun y S2 => ∃ ks, (∃ ds, x = .tup ds ∧ keyDL ds = some ks) ∧ S2[n]? = some (.dT []) ∧ P (.ref n) (S2.set n (.dT [(ks, y)]))
def kDi2 (n : Nat) (P : D → Sto → Prop) (x y : D) (S : Sto) : Prop := ∃ ks, (∃ ds, x = .tup ds ∧ keyDL ds = some ks) ∧ S[n]? = some (.dT []) ∧ P (.ref n) (S.set n (.dT [(ks, y)]))
theorem w_Disp1T (h : Wp (fk env (S ++ [.dT []])) (kDi1 fv S.length env P)) : Wp (dDisp1T fk fv env S) P := by
  obtain ⟨x, S1, e1, h1⟩ := h.get
  obtain ⟨y, S2, e2, ks, ⟨ds, ex, hk⟩, hS, p⟩ := Wp.get h1
  subst ex
  unfold dDisp1T
  rw [e1, Out.bind_ok, e2, Out.bind_ok, hS]
  dsimp only
  rw [hk]
  exact Wp.of rfl p
theorem k_Di1 : kDi1 fv n env P x S = Wp (fv env S) (kDi2 n P x) := rfl
def kPT1 (fo fi : DE) (env : Ev) (P : Fl × Ev → Sto → Prop) (y : D) (S : Sto) : Prop := Wp (fo env S) fun o S2 => Wp (fi env S2) fun i S3 => ∃ S4, putT S3 o i y = some S4 ∧ P (.nx, env) S4
def kPT2 (fi : DE) (env : Ev) (P : Fl × Ev → Sto → Prop) (y o : D) (S : Sto) : Prop := Wp (fi env S) fun i S3 => ∃ S4, putT S3 o i y = some S4 ∧ P (.nx, env) S4
def kPT3 (env : Ev) (P : Fl × Ev → Sto → Prop) (y o i : D) (S : Sto) : Prop := ∃ S4, putT S o i y = some S4 ∧ P (.nx, env) S4
theorem w_PutT (h : Wp (fe env S) (kPT1 fo fi env PF)) : Wp (sPutT fo fi fe env S) PF := by
  obtain ⟨y, S1, e1, h1⟩ := h.get
  obtain ⟨o, S2, e2, h2⟩ := Wp.get h1
  obtain ⟨i, S3, e3, S4, e4, hp⟩ := Wp.get h2
  unfold sPutT
  rw [e1, Out.bind_ok, e2, Out.bind_ok, e3, Out.bind_ok, e4]
  exact Wp.of rfl hp
theorem k_PT1 : kPT1 fo fi env PF y S = Wp (fo env S) (kPT2 fi env PF y) := rfl
theorem k_PT2 : kPT2 fi env PF y o S = Wp (fi env S) (kPT3 env PF y o) := rfl
end
/-- keys of numbers -/
def kI (ns : List Int) : List Key := ns.map Sum.inl
theorem keyDL_ints : ∀ ns : List Int, keyDL (ns.map D.int) = some (kI ns)
  | [] => rfl
  | n :: ns => by
    rw [List.map_cons]
    unfold keyDL
    rw [keyDL_ints ns]
    rfl
theorem kI_inj {a b : List Int} (h : kI a = kI b) : a = b := (List.map_inj_right (f := (Sum.inl : Int → Key)) (fun _ _ h => Sum.inl.inj h)).mp h
/-- a table whose keys are tuples of numbers -/
def tabI (kvs : List (List Int × D)) : List (List Key × D) := kvs.map fun kv => (kI kv.1, kv.2)
theorem tabI_val (k : List Int) : ∀ kvs : List (List Int × D), valD (tabI kvs) (kI k) = valD kvs k
  | [] => rfl
  | p :: kvs => by
    have ih := tabI_val k kvs
    unfold valD tabI at ih ⊢
    rw [List.map_cons, List.find?_cons, List.find?_cons]
    have : decide (kI p.1 = kI k) = decide (p.1 = k) := decide_eq_decide.mpr ⟨kI_inj, fun h => by rw [h]⟩
    dsimp only
    rw [this]
    cases decide (p.1 = k) with
    | true => rfl
    | false => exact ih
theorem tabI_put (k : List Int) (d : D) (kvs : List (List Int × D)) : putD (tabI kvs) (kI k) d = tabI (putD kvs k d) := by
  have ha : ((tabI kvs).any fun kv => decide (kv.1 = kI k)) = kvs.any fun kv => decide (kv.1 = k) := by
    unfold tabI
    rw [List.any_map]
    refine congrArg (fun f => kvs.any f) (funext fun p => ?_)
    exact decide_eq_decide.mpr ⟨kI_inj, fun h => by show kI p.1 = kI k; rw [h]⟩
  unfold putD
  rw [ha]
  by_cases q : (kvs.any fun kv => decide (kv.1 = k)) = true
  · rw [if_pos q, if_pos q]
    unfold tabI
    rw [List.map_map, List.map_map]
    refine List.map_congr_left fun p _ => ?_
    show (if kI p.1 = kI k then (kI p.1, d) else (kI p.1, p.2)) = _
    by_cases e : p.1 = k
    · rw [if_pos (by rw [e])]
      show _ = (kI (if p.1 = k then (p.1, d) else p).1, (if p.1 = k then (p.1, d) else p).2)
      rw [if_pos e]
    · rw [if_neg (fun z => e (kI_inj z))]
      show _ = (kI (if p.1 = k then (p.1, d) else p).1, (if p.1 = k then (p.1, d) else p).2)
      rw [if_neg e]
  · rw [if_neg q, if_neg q]
    unfold tabI
    rw [List.map_append]
    rfl
theorem getT_I {S : Sto} {n : Nat} {kvs : List (List Int × D)} (h : S[n]? = some (.dT (tabI kvs))) (k : List Int) : getT S (.ref n) (tupI k) = some (valD kvs k) := by
  unfold getT tupI
  dsimp only
  rw [h]
  dsimp only
  rw [keyDL_ints, Option.map_some, tabI_val]
theorem inT_I {S : Sto} {n : Nat} {kvs : List (List Int × D)} (h : S[n]? = some (.dT (tabI kvs))) (neg : Bool) (k : List Int) : oInT neg S (tupI k) (.ref n) = some (.bl (neg ^^ (valD kvs k).isSome)) := by
  unfold oInT
  rw [getT_I h]
  rfl
theorem putT_I {S : Sto} {n : Nat} {kvs : List (List Int × D)} (h : S[n]? = some (.dT (tabI kvs))) (k : List Int) (d : D) (hl : kvs.length < sizeLine) : putT S (.ref n) (tupI k) d = some (S.set n (.dT (tabI (putD kvs k d)))) := by
  unfold putT tupI
  dsimp only
  rw [h]
  dsimp only
  rw [if_pos (by unfold tabI; rw [List.length_map]; exact hl), keyDL_ints, Option.map_some, tabI_put]
theorem lenT_I {S : Sto} {n : Nat} {kvs : List (List Int × D)} (h : S[n]? = some (.dT (tabI kvs))) : oLenA S [.ref n] = some (.int kvs.length) := by
  have e : oLen S [.ref n] = none := by
    show (listOf S (.ref n)).map _ = none
    show (lstOf S (.ref n)).map _ = none
    unfold lstOf
    dsimp only
    rw [h]
    rfl
  unfold oLenA orC
  rw [e]
  show (match S[n]? with | some (.dT kvs) => some (D.int kvs.length) | some (.dK kvs) => some (D.int kvs.length) | _ => none) = _
  rw [h]
  dsimp only
  unfold tabI
  rw [List.length_map]
theorem listT_I {S : Sto} {n : Nat} {kvs : List (List Int × D)} (h : S[n]? = some (.dT (tabI kvs))) : oListA S [.ref n] = some (.lst ((kvs.map (·.1)).map tupI)) := by
  have e : oListC S [.ref n] = none := by
    show (listOf S (.ref n)).map _ = none
    show (lstOf S (.ref n)).map _ = none
    unfold lstOf
    dsimp only
    rw [h]
    rfl
  unfold oListA orC
  rw [e]
  show (match S[n]? with | some (.dT kvs) => some (D.lst (kvs.map fun kv : List Key × D => D.tup (kv.1.map kD))) | _ => none) = _
  rw [h]
  dsimp only
  unfold tabI
  rw [List.map_map, List.map_map]
  refine congrArg (fun l => some (D.lst l)) (List.map_congr_left fun p _ => ?_)
  show D.tup ((kI p.1).map kD) = tupI p.1
  unfold kI tupI
  rw [List.map_map]
  rfl
/-! ### min, max of two -/
def oMin2 : Sto → List D → Option D := fun _ ds => match ds with
  | [.int i, .int j] => some (.int (if j < i then j else i))
  | _ => none
def oMax2 : Sto → List D → Option D := fun _ ds => match ds with
  | [.int i, .int j] => some (.int (if j > i then j else i))
  | _ => none
section
variable {X : Cx}
theorem cd_min2 (hc : X.calm = true) : CallD X (.builtin "min") oMin2 := by
  refine ⟨_, call_min2 hc, fun r t S H ds vs d Q so dv e q => ?_⟩
  unfold oMin2 at e
  split at e
  · cases e
    cases dv with
    | cons d1 d2 =>
      cases d2 with
      | cons d3 d4 =>
        cases d4; cases d1; cases d3
        exact ⟨_, _, rfl, q _ _ (Ext.refl _ _) so (.int _)⟩
  · cases e
theorem cd_max2 (hc : X.calm = true) : CallD X (.builtin "max") oMax2 := by
  refine ⟨_, call_max2 hc, fun r t S H ds vs d Q so dv e q => ?_⟩
  unfold oMax2 at e
  split at e
  · cases e
    cases dv with
    | cons d1 d2 =>
      cases d2 with
      | cons d3 d4 =>
        cases d4; cases d1; cases d3
        exact ⟨_, _, rfl, q _ _ (Ext.refl _ _) so (.int _)⟩
  · cases e
end
end DL
end L2

set_option Elab.async false
set_option linter.all false
set_option maxRecDepth 100000
namespace L2
namespace DL
open PySem PySem.Spec PyProof.Rows
/-- a loop over a list, whether it may be changed or not -/
noncomputable def sForA (f : DE) (g : DG) (b : DS) : DS := fun env S => (f env S).bind fun d S1 => match d, lstOf S1 d with
  | .ref n, some ds => forGoC n ds g b ds env S1
  | d, _ => match seqItems d with
    | some ds => forGo g b ds env S1
    | none => .bad
section
variable {X : Cx} {E : XK} {f : DS} {fe : DE} {pos : Pos}
theorem PS.or {e : Stmt} {u u' : TS} (h : PS X e u) (h' : PS X e u') : PS X e (fun D σ H => u D σ H ∨ u' D σ H) := ⟨fun pins s σ H D I q => q.elim (h.run pins s σ H D I) (h'.run pins s σ H D I)⟩
theorem ds_forA {tg iter : Expr} {body : List Stmt} {gg : DG} {own : List Nat} (hp : PassesOwn (model X.prog X.w) X.A X.env X.xe) (hc : X.calm = true) (he : PE X iter (tE X (WC E) fe)) (hg : PG X tg (tG X.K X.mg own gg)) (hb : PSs X body (tS X E f))
    (hs : ∀ x, foldedSetIterable iter X.env x = pure x := by intro _; rfl) : PS X (.For tg iter body [] pos) (tS X E (sForA fe gg f)) := by
  refine PS.imp (PS.or (ds_forC hp hc he hg hb hs) (ds_for hp hc (di_seq he) hg hb hs)) fun D σ H q => ?_
  obtain ⟨r, t, S, env, rel, g⟩ := q
  unfold sForA at g
  cases h : fe env S with
  | bad => rw [h] at g; exact (show False from g).elim
  | exc c S1 =>
    rw [h, Out.bind_exc] at g
    refine .inl ⟨r, t, S, env, rel, ?_⟩
    unfold sForC
    rw [h, Out.bind_exc]
    exact g
  | ok d S1 =>
    rw [h, Out.bind_ok] at g
    split at g
    · rename_i n ds hd
      refine .inl ⟨r, t, S, env, rel, ?_⟩
      unfold sForC
      rw [h, Out.bind_ok, hd]
      exact g
    · split at g
      · rename_i ds hds
        refine .inr ⟨r, t, S, env, rel, ?_⟩
        unfold sFor iSeq
        rw [h, Out.bind_ok, hds]
        exact g
      · exact (show False from g).elim
end
section
variable {f : DE} {g : DG} {b : DS} {env : Ev} {S : Sto} {P : Fl × Ev → Sto → Prop}
def kForA (g : DG) (b : DS) (env : Ev) (P : Fl × Ev → Sto → Prop) (d : D) (S : Sto) : Prop := (∃ n ds, d = .ref n ∧ S[n]? = some (.lst ds) ∧ Wp (forGoC n ds g b ds env S) P) ∨ ∃ ds, d = .lst ds ∧ Wp (forGo g b ds env S) P
theorem w_ForA (h : Wp (f env S) (kForA g b env P)) : Wp (sForA f g b env S) P := by
  unfold sForA
  rw [wp_bind]
  refine h.mono fun d S1 q => ?_
  rcases q with ⟨n, ds, e, hn, w⟩ | ⟨ds, e, w⟩
  · subst e
    rw [lst_ref hn]
    exact w
  · subst e
    exact w
/-- the same loop body, whichever list it is -/
theorem forA_wp {n : Nat} {ds0 : List D} (I : List D → Ev → Sto → Prop) {d : D} (hd : d = .lst ds0 ∨ d = .ref n) (h : I ds0 env S) (hS : d = .ref n → S[n]? = some (.lst ds0)) (hk : d = .ref n → ∀ ds env S, I ds env S → S[n]? = some (.lst ds0))
    (hs : ∀ d rest env S, I (d :: rest) env S → ∃ env1, g env d = some env1 ∧ Wp (b env1 S) fun p S' => match p.1 with | .nx => I rest p.2 S' | .ct => I rest p.2 S' | .bk => P (.nx, p.2) S' | .rt v => P (.rt v, p.2) S')
    (hf : ∀ env S, I [] env S → P (.nx, env) S) : kForA g b env P d S := by
  rcases hd with e | e
  · exact .inr ⟨ds0, e, forGo_wp I ds0 env S h hs hf⟩
  · exact .inl ⟨n, ds0, e, hS e, forGoC_all I ds0 env S h (hk e) hs hf⟩
end
end DL
end L2

set_option Elab.async false
set_option linter.all false
set_option maxRecDepth 100000
namespace L2
namespace DL
namespace G
open PySem PySem.Spec PyProof.Rows
section
variable {P : Program} {w : World} {K : PySem.W.Frag} {mg : Str → Option Value} {base : Heap}
def topS (i : Nat) : Stmt := PySem.Challenge.pw_meetwall_k55_lists_of_counts_looked_at.main.body.getD i (.Pass ⟨0, 0, 0, 0⟩)
/-! ### is_count -/
abbrev st_is_count : Stmt := topS 4
abbrev N_is_count : List Str := ["thing"]
theorem sc_is_count : FnScope N_is_count ["thing"] (defScope st_is_count) := ⟨rfl, rfl, rfl, by decide +kernel, rfl, by decide +kernel, by decide +kernel⟩
def d_is_count : DS := (sRet (dAnd (dCall oIsInst (aCons (dVar 0) (aCons (dC (.ty "int")) aNil))) (dAnd (dNot (dCall oIsInst (aCons (dVar 0) (aCons (dC (.ty "bool")) aNil)))) (dBin oGe (dVar 0) (dC (.int 0))))))
def f_is_count : Fn := dFun0 1 d_is_count
theorem ok_is_count {k : Nat} {f : Addr} {fd : FuncData} (F : Fun K "is_count" "is_count" st_is_count f fd) (b : Binds K fd ["thing"] []) (m : mg "is_count" = some (.ref f)) (m_isinstance : mg "isinstance" = none) (m_int : mg "int" = none) (m_bool : mg "bool" = none) : Callee P w K mg base CX0 (k + 1) "is_count" 1 f_is_count := by
  have sc := sc_is_count
  refine ⟨f, fd, ["thing"], Fun.okD F sc rfl fun cdv A outer s H E hr => ?_, m, F.kp, b⟩
  exact (ds_one (ds_ret (de_and (de_callB cd_isinst rfl m_isinstance (by decide +kernel) (da_cons (de_var 0) (da_cons (de_ty rfl m_int (by decide +kernel)) da_nil))) (de_and (de_not (de_callB cd_isinst rfl m_isinstance (by decide +kernel) (da_cons (de_var 0) (da_cons (de_ty rfl m_bool (by decide +kernel)) da_nil)))) (de_one (de_cmp od_ge (de_var 0) de_int (nomark _)))))))
/-! ### is_counted -/
abbrev st_is_counted : Stmt := topS 5
abbrev N_is_counted : List Str := ["thing", "k", "counts", "count"]
theorem sc_is_counted : FnScope N_is_counted ["thing"] (defScope st_is_counted) := ⟨rfl, rfl, rfl, by decide +kernel, rfl, by decide +kernel, by decide +kernel⟩
def d_is_counted : DS := (sSeq (sIf (bOr (bNot (dTst (dCall oIsInst (aCons (dVar 0) (aCons (dC (.ty "tuple")) aNil))))) (bOr (dTst (dBin oNe (dCall oLen (aCons (dVar 0) aNil)) (dC (.int 2)))) (bOr (bNot (dTst (dCallF f_is_count (aCons (dBin oIx (dVar 0) (dC (.int 0))) aNil)))) (bNot (dTst (dCall oIsInst (aCons (dBin oIx (dVar 0) (dC (.int 1))) (aCons (dC (.ty "tuple")) aNil))))))))
  (sRet (dC (.bl false)))
  sNil)
  (sSeq (sAsg (dVar 0) (gTupD 2 (gsCons (gN 1) (gsCons (gN 2) gsNil))))
  (sSeq (sIf (bOr (bNot (dTst (dChain oLe oLe (dC (.int 1)) (dVar 1) (dC (.int 5))))) (bNot (dTst (dChain oLe oLe (dC (.int 1)) (dCall oLen (aCons (dVar 2) aNil)) (dC (.int 5))))))
  (sRet (dC (.bl false)))
  sNil)
  (sRet (dCall oAll (aCons (dComp (iSeq (dVar 2)) (gN 3) [3] bYes (dAnd (dCallF f_is_count (aCons (dVar 3) aNil)) (dBin oLe (dVar 3) (dC (.int 4))))) aNil))))))
def f_is_counted : Fn := dFun0 4 d_is_counted
theorem ok_is_counted {k : Nat} {f : Addr} {fd : FuncData} (F : Fun K "is_counted" "is_counted" st_is_counted f fd) (b : Binds K fd ["thing"] []) (m : mg "is_counted" = some (.ref f)) (c_is_count : Callee P w K mg base CX0 k "is_count" 1 f_is_count) (m_isinstance : mg "isinstance" = none) (m_tuple : mg "tuple" = none) (m_len : mg "len" = none) (m_all : mg "all" = none) : Callee P w K mg base CX0 (k + 1) "is_counted" 1 f_is_counted := by
  have sc := sc_is_counted
  refine ⟨f, fd, ["thing"], Fun.okD F sc rfl fun cdv A outer s H E hr => ?_, m, F.kp, b⟩
  exact (ds_cons (ds_if (PW.pt (dw_or (dt_not (dt_val (de_callB cd_isinst rfl m_isinstance (by decide +kernel) (da_cons (de_var 0) (da_cons (de_ty rfl m_tuple (by decide +kernel)) da_nil))))) (dw_or (dt_cmp (od_ne hr.units) (de_callB cd_len rfl m_len PySem.boot_len (da_cons (de_var 0) da_nil)) de_int (nomark _)) (dw_or (dt_not (dt_val (de_callC c_is_count hr thru0 (an_cons (de_ix xd_ix (de_var 0) de_int (fun _ _ => rfl)) an_nil)))) (dw_or1 (dt_not (dt_val (de_callB cd_isinst rfl m_isinstance (by decide +kernel) (da_cons (de_ix xd_ix (de_var 0) de_int (fun _ _ => rfl)) (da_cons (de_ty rfl m_tuple (by decide +kernel)) da_nil))))))))))
  (ds_one (ds_ret de_bl))
  ds_nil)
  (ds_cons (ds_asg (de_var 0) (dg_tup (by rfl) (dgs_cons (dg_name 1 sc.nd) (dgs_cons (dg_name 2 sc.nd) dgs_nil))))
  (ds_cons (ds_if (PW.pt (dw_or (dt_not (dt_chain od_le od_le de_int (de_var 1) de_int)) (dw_or1 (dt_not (dt_chain od_le od_le de_int (de_callB cd_len rfl m_len PySem.boot_len (da_cons (de_var 2) da_nil)) de_int)))))
  (ds_one (ds_ret de_bl))
  ds_nil)
  (ds_one (ds_ret (de_callB (cd_all (by rfl)) rfl m_all (by decide +kernel) (da_cons (de_comp (own := [("count", 3)]) (by rfl) sc.nd (di_seq (de_var 2)) (blkOk_by (own := [("count", 3)]) (N := N_is_counted) (sc := defScope st_is_counted) (by decide +kernel)) (by decide) (fun _ _ _ _ _ => (dg_name 3 sc.nd)) (fun _ _ _ _ _ => dts_nil) (fun _ _ _ _ _ => (de_and (de_callC c_is_count hr thru0 (an_cons (de_var 3) an_nil)) (de_one (de_cmp od_le (de_var 3) de_int (nomark _)))))) da_nil)))))))
/-! ### need_counted -/
abbrev st_need_counted : Stmt := topS 6
abbrev N_need_counted : List Str := ["meeting"]
theorem sc_need_counted : FnScope N_need_counted ["meeting"] (defScope st_need_counted) := ⟨rfl, rfl, rfl, by decide +kernel, rfl, by decide +kernel, by decide +kernel⟩
def d_need_counted : DS := (sIf (bNot (dTst (dCallF f_is_counted (aCons (dVar 0) aNil))))
  sBad
  sNil)
def f_need_counted : Fn := dFun0 1 d_need_counted
theorem ok_need_counted {k : Nat} {f : Addr} {fd : FuncData} (F : Fun K "need_counted" "need_counted" st_need_counted f fd) (b : Binds K fd ["meeting"] []) (m : mg "need_counted" = some (.ref f)) (c_is_counted : Callee P w K mg base CX0 k "is_counted" 1 f_is_counted) : Callee P w K mg base CX0 (k + 1) "need_counted" 1 f_need_counted := by
  have sc := sc_need_counted
  refine ⟨f, fd, ["meeting"], Fun.okD F sc rfl fun cdv A outer s H E hr => ?_, m, F.kp, b⟩
  exact (ds_one (ds_if (dt_not (dt_val (de_callC c_is_counted hr thru0 (an_cons (de_var 0) an_nil))))
  (ds_one ds_bad)
  ds_nil))
/-! ### groups_of -/
abbrev st_groups_of : Stmt := topS 7
abbrev N_groups_of : List Str := ["k", "counts", "found", "hand", "count", "one"]
theorem sc_groups_of : FnScope N_groups_of ["k", "counts"] (defScope st_groups_of) := ⟨rfl, rfl, rfl, by decide +kernel, rfl, by decide +kernel, by decide +kernel⟩
def d_groups_of : DS := (sSeq (sSet 2 (dLst (aCons (dTup aNil) aNil)))
  (sSeq (sFor (iEnum (dVar 1)) (gTupD 2 (gsCons (gN 3) (gsCons (gN 4) gsNil)))
  (sIf (dTst (dBin oGt (dVar 4) (dC (.int 0))))
  (sSet 2 (dBin oAdd (dVar 2) (dComp (iSeq (dVar 2)) (gN 5) [5] (dTst (dBin oLt (dCall oLen (aCons (dVar 5) aNil)) (dVar 0))) (dBin oAdd (dVar 5) (dTup (aCons (dVar 3) aNil))))))
  sNil))
  (sRet (dComp (iSeq (dVar 2)) (gN 5) [5] (dTst (dBin oEq (dCall oLen (aCons (dVar 5) aNil)) (dVar 0))) (dVar 5)))))
def f_groups_of : Fn := dFun0 6 d_groups_of
theorem ok_groups_of {k : Nat} {f : Addr} {fd : FuncData} (F : Fun K "groups_of" "groups_of" st_groups_of f fd) (b : Binds K fd ["k", "counts"] []) (m : mg "groups_of" = some (.ref f)) (m_enumerate : mg "enumerate" = none) (m_len : mg "len" = none) : Callee P w K mg base CX0 (k + 1) "groups_of" 2 f_groups_of := by
  have sc := sc_groups_of
  refine ⟨f, fd, ["k", "counts"], Fun.okD F sc rfl fun cdv A outer s H E hr => ?_, m, F.kp, b⟩
  exact (ds_cons (ds_set 2 sc.nd (de_lst (da_cons (de_tup da_nil) da_nil)))
  (ds_cons (ds_for PassesOwn.never (by rfl) (di_enum rfl m_enumerate (de_var 1)) (dg_tup (by rfl) (dgs_cons (dg_name 3 sc.nd) (dgs_cons (dg_name 4 sc.nd) dgs_nil)))
  (ds_one (ds_if (dt_cmp od_gt (de_var 4) de_int (nomark _))
  (ds_one (ds_set 2 sc.nd (de_bin od_add (de_var 2) (de_comp (own := [("one", 5)]) (by rfl) sc.nd (di_seq (de_var 2)) (blkOk_by (own := [("one", 5)]) (N := N_groups_of) (sc := defScope st_groups_of) (by decide +kernel)) (by decide) (fun _ _ _ _ _ => (dg_name 5 sc.nd)) (fun _ _ _ _ _ => (dts_one (dt_cmp od_lt (de_callB cd_len rfl m_len PySem.boot_len (da_cons (de_var 5) da_nil)) (de_var 0) (nomark _)))) (fun _ _ _ _ _ => (de_bin od_add (de_var 5) (de_tup (da_cons (de_var 3) da_nil))))))))
  ds_nil)))
  (ds_one (ds_ret (de_comp (own := [("one", 5)]) (by rfl) sc.nd (di_seq (de_var 2)) (blkOk_by (own := [("one", 5)]) (N := N_groups_of) (sc := defScope st_groups_of) (by decide +kernel)) (by decide) (fun _ _ _ _ _ => (dg_name 5 sc.nd)) (fun _ _ _ _ _ => (dts_one (dt_cmp (od_eq hr.units) (de_callB cd_len rfl m_len PySem.boot_len (da_cons (de_var 5) da_nil)) (de_var 0) (nomark _)))) (fun _ _ _ _ _ => (de_var 5)))))))
/-! ### behind_meeting -/
abbrev st_behind_meeting : Stmt := topS 8
abbrev N_behind_meeting : List Str := ["counts", "group", "hand", "count"]
theorem sc_behind_meeting : FnScope N_behind_meeting ["counts", "group"] (defScope st_behind_meeting) := ⟨rfl, rfl, rfl, by decide +kernel, rfl, by decide +kernel, by decide +kernel⟩
def d_behind_meeting : DS := (sRet (dCall oTuple (aCons (dComp (iEnum (dVar 0)) (gTupD 2 (gsCons (gN 2) (gsCons (gN 3) gsNil))) [2, 3] bYes (dBin oSub (dVar 3) (dCall oIntC (aCons (dBin (oIn false) (dVar 2) (dVar 1)) aNil)))) aNil)))
def f_behind_meeting : Fn := dFun0 4 d_behind_meeting
theorem ok_behind_meeting {k : Nat} {f : Addr} {fd : FuncData} (F : Fun K "behind_meeting" "behind_meeting" st_behind_meeting f fd) (b : Binds K fd ["counts", "group"] []) (m : mg "behind_meeting" = some (.ref f)) (m_tuple : mg "tuple" = none) (m_enumerate : mg "enumerate" = none) (m_int : mg "int" = none) : Callee P w K mg base CX0 (k + 1) "behind_meeting" 2 f_behind_meeting := by
  have sc := sc_behind_meeting
  refine ⟨f, fd, ["counts", "group"], Fun.okD F sc rfl fun cdv A outer s H E hr => ?_, m, F.kp, b⟩
  exact (ds_one (ds_ret (de_callTy cd_tuple rfl m_tuple (by decide +kernel) (da_cons (de_comp (own := [("hand", 2), ("count", 3)]) (by rfl) sc.nd (di_enum rfl m_enumerate (de_var 0)) (blkOk_by (own := [("hand", 2), ("count", 3)]) (N := N_behind_meeting) (sc := defScope st_behind_meeting) (by decide +kernel)) (by decide) (fun _ _ _ _ _ => (dg_tup (by rfl) (dgs_cons (dg_name 2 sc.nd) (dgs_cons (dg_name 3 sc.nd) dgs_nil)))) (fun _ _ _ _ _ => dts_nil) (fun _ _ _ _ _ => (de_bin od_sub (de_var 3) (de_callTy cd_int rfl m_int (by decide +kernel) (da_cons (de_cmp (od_in (hu65 hr)) (de_var 2) (de_var 1) (by rfl)) da_nil))))) da_nil))))
/-! ### are_ever -/
abbrev st_are_ever : Stmt := topS 9
abbrev N_are_ever : List Str := ["meeting", "stands", "k", "counts", "known", "stand", "groups", "group", "count"]
theorem sc_are_ever : FnScope N_are_ever ["meeting", "stands"] (defScope st_are_ever) := ⟨rfl, rfl, rfl, by decide +kernel, rfl, by decide +kernel, by decide +kernel⟩
def d_are_ever : DS := (sSeq (sExpr (dCallF f_need_counted (aCons (dVar 0) aNil)))
  (sSeq (sAsg (dVar 0) (gTupD 2 (gsCons (gN 2) (gsCons (gN 3) gsNil))))
  (sSeq (sSet 4 (dNewT))
  (sSeq (sFor (iSeq (dVar 1)) (gN 5)
  (sPutT (dVar 4) (dVar 5) (dC (.bl true))))
  (sSeq (sIf (bOr (dTst (dBin oNe (dCall oLenA (aCons (dVar 4) aNil)) (dCall oLen (aCons (dVar 1) aNil)))) (dTst (dBin (oInT true) (dVar 3) (dVar 4))))
  (sRet (dC (.bl false)))
  sNil)
  (sSeq (sFor (iSeq (dVar 1)) (gN 5)
  (sSeq (sIf (bOr (dTst (dBin oNe (dCall oLen (aCons (dVar 5) aNil)) (dCall oLen (aCons (dVar 3) aNil)))) (bNot (dTst (dCall oAll (aCons (dComp (iSeq (dVar 5)) (gN 8) [8] bYes (dChain oLe oLe (dC (.int 0)) (dVar 8) (dC (.int 4)))) aNil)))))
  (sRet (dC (.bl false)))
  sNil)
  (sSeq (sSet 6 (dCallF f_groups_of (aCons (dVar 2) (aCons (dVar 5) aNil))))
  (sSeq (sIf (bAnd (dTst (dBin oEq (dVar 6) (dLst aNil))) (dTst (dBin oGt (dCall oSum (aCons (dVar 5) aNil)) (dC (.int 0)))))
  (sRet (dC (.bl false)))
  sNil)
  (sIf (bNot (dTst (dCall oAll (aCons (dComp (iSeq (dVar 6)) (gN 7) [7] bYes (dBin (oInT false) (dCallF f_behind_meeting (aCons (dVar 5) (aCons (dVar 7) aNil))) (dVar 4))) aNil))))
  (sRet (dC (.bl false)))
  sNil)))))
  (sRet (dC (.bl true)))))))))
noncomputable def f_are_ever : Fn := frzF (dFun0 9 d_are_ever)
theorem ok_are_ever {k : Nat} {f : Addr} {fd : FuncData} (F : Fun K "are_ever" "are_ever" st_are_ever f fd) (b : Binds K fd ["meeting", "stands"] []) (m : mg "are_ever" = some (.ref f)) (c_need_counted : Callee P w K mg base CX0 k "need_counted" 1 f_need_counted) (c_groups_of : Callee P w K mg base CX0 k "groups_of" 2 f_groups_of) (c_behind_meeting : Callee P w K mg base CX0 k "behind_meeting" 2 f_behind_meeting) (m_len : mg "len" = none) (m_all : mg "all" = none) (m_sum : mg "sum" = none) : Callee P w K mg base CX0 (k + 1) "are_ever" 2 f_are_ever := by
  have sc := sc_are_ever
  refine Callee.frz ⟨f, fd, ["meeting", "stands"], Fun.okD F sc rfl fun cdv A outer s H E hr => ?_, m, F.kp, b⟩
  exact (ds_cons (ds_expr (de_callC c_need_counted hr thru0 (an_cons (de_var 0) an_nil)))
  (ds_cons (ds_asg (de_var 0) (dg_tup (by rfl) (dgs_cons (dg_name 2 sc.nd) (dgs_cons (dg_name 3 sc.nd) dgs_nil))))
  (ds_cons (ds_set 4 sc.nd de_newT)
  (ds_cons (ds_for PassesOwn.never (by rfl) (di_seq (de_var 1)) (dg_name 5 sc.nd)
  (ds_one (ds_putT (hu1 hr) (de_var 4) (de_var 5) de_bl)))
  (ds_cons (ds_if (PW.pt (dw_or (dt_cmp (od_ne hr.units) (de_callB cd_lenA rfl m_len PySem.boot_len (da_cons (de_var 4) da_nil)) (de_callB cd_len rfl m_len PySem.boot_len (da_cons (de_var 1) da_nil)) (nomark _)) (dw_or1 (dt_cmp (od_notInT (hu1 hr)) (de_var 3) (de_var 4) (by rfl)))))
  (ds_one (ds_ret de_bl))
  ds_nil)
  (ds_cons (ds_for PassesOwn.never (by rfl) (di_seq (de_var 1)) (dg_name 5 sc.nd)
  (ds_cons (ds_if (PW.pt (dw_or (dt_cmp (od_ne hr.units) (de_callB cd_len rfl m_len PySem.boot_len (da_cons (de_var 5) da_nil)) (de_callB cd_len rfl m_len PySem.boot_len (da_cons (de_var 3) da_nil)) (nomark _)) (dw_or1 (dt_not (dt_val (de_callB (cd_all (by rfl)) rfl m_all (by decide +kernel) (da_cons (de_comp (own := [("count", 8)]) (by rfl) sc.nd (di_seq (de_var 5)) (blkOk_by (own := [("count", 8)]) (N := N_are_ever) (sc := defScope st_are_ever) (by decide +kernel)) (by decide) (fun _ _ _ _ _ => (dg_name 8 sc.nd)) (fun _ _ _ _ _ => dts_nil) (fun _ _ _ _ _ => (de_chain od_le od_le de_int (de_var 8) de_int))) da_nil)))))))
  (ds_one (ds_ret de_bl))
  ds_nil)
  (ds_cons (ds_set 6 sc.nd (de_callC c_groups_of hr thru0 (an_cons (de_var 2) (an_cons (de_var 5) an_nil))))
  (ds_cons (ds_if (PW.pt (dw_and (dt_cmp (od_eq hr.units) (de_var 6) (de_lst da_nil) (nomark _)) (dw_and1 (dt_cmp od_gt (de_callB (cd_sum (by rfl)) rfl m_sum (by decide +kernel) (da_cons (de_var 5) da_nil)) de_int (nomark _)))))
  (ds_one (ds_ret de_bl))
  ds_nil)
  (ds_one (ds_if (dt_not (dt_val (de_callB (cd_all (by rfl)) rfl m_all (by decide +kernel) (da_cons (de_comp (own := [("group", 7)]) (by rfl) sc.nd (di_seq (de_var 6)) (blkOk_by (own := [("group", 7)]) (N := N_are_ever) (sc := defScope st_are_ever) (by decide +kernel)) (by decide) (fun _ _ _ _ _ => (dg_name 7 sc.nd)) (fun _ _ _ _ _ => dts_nil) (fun _ _ _ _ _ => (de_cmp (od_inT (hu1 hr)) (de_callC c_behind_meeting hr thru0 (an_cons (de_var 5) (an_cons (de_var 7) an_nil))) (de_var 4) (by rfl)))) da_nil))))
  (ds_one (ds_ret de_bl))
  ds_nil))))))
  (ds_one (ds_ret de_bl))))))))
/-! ### _law_e_mixed -/
abbrev st__law_e_mixed : Stmt := topS 11
abbrev N__law_e_mixed : List Str := ["cell", "place", "one", "two", "more"]
theorem sc__law_e_mixed : FnScope N__law_e_mixed ["cell", "place"] (defScope st__law_e_mixed) := ⟨rfl, rfl, rfl, by decide +kernel, rfl, by decide +kernel, by decide +kernel⟩
def d__law_e_mixed : DS := (sSeq (sIf (dTst (dBin oGe (dVar 0) (dBin oPow (dC (.int 10)) (dC (.int 18)))))
  (sRet (dVar 0))
  sNil)
  (sSeq (sSet 2 (dBin oMod (dBin oAdd (dBin oAdd (dBin oMul (dBin oMod (dVar 0) (dC (.int 1000000009))) (dC (.int 75353))) (dBin oMul (dVar 1) (dC (.int 4099)))) (dC (.int 17))) (dC (.int 1999999973))))
  (sSeq (sSet 3 (dBin oMod (dBin oAdd (dBin oAdd (dBin oAdd (dBin oMul (dVar 2) (dVar 2)) (dBin oMul (dC (.int 8191)) (dVar 2))) (dBin oMul (dC (.int 3)) (dVar 1))) (dC (.int 1))) (dC (.int 2147483549))))
  (sSeq (sSet 4 (dBin oMod (dBin oAdd (dBin oAdd (dBin oMul (dVar 3) (dVar 3)) (dBin oMul (dC (.int 127)) (dVar 1))) (dVar 2)) (dC (.int 2147483497))))
  (sRet (dBin oAdd (dBin oMul (dVar 3) (dC (.int 2147483497))) (dVar 4)))))))
def f__law_e_mixed : Fn := dFun0 5 d__law_e_mixed
theorem ok__law_e_mixed {k : Nat} {f : Addr} {fd : FuncData} (F : Fun K "_law_e_mixed" "_law_e_mixed" st__law_e_mixed f fd) (b : Binds K fd ["cell", "place"] []) (m : mg "_law_e_mixed" = some (.ref f)) : Callee P w K mg base CX0 (k + 1) "_law_e_mixed" 2 f__law_e_mixed := by
  have sc := sc__law_e_mixed
  refine ⟨f, fd, ["cell", "place"], Fun.okD F sc rfl fun cdv A outer s H E hr => ?_, m, F.kp, b⟩
  exact (ds_cons (ds_if (dt_cmp od_ge (de_var 0) (de_bin od_pow de_int de_int) (nomark _))
  (ds_one (ds_ret (de_var 0)))
  ds_nil)
  (ds_cons (ds_set 2 sc.nd (de_bin od_mod (de_bin od_add (de_bin od_add (de_bin od_mul (de_bin od_mod (de_var 0) de_int) de_int) (de_bin od_mul (de_var 1) de_int)) de_int) de_int))
  (ds_cons (ds_set 3 sc.nd (de_bin od_mod (de_bin od_add (de_bin od_add (de_bin od_add (de_bin od_mul (de_var 2) (de_var 2)) (de_bin od_mul de_int (de_var 2))) (de_bin od_mul de_int (de_var 1))) de_int) de_int))
  (ds_cons (ds_set 4 sc.nd (de_bin od_mod (de_bin od_add (de_bin od_add (de_bin od_mul (de_var 3) (de_var 3)) (de_bin od_mul de_int (de_var 1))) (de_var 2)) de_int))
  (ds_one (ds_ret (de_bin od_add (de_bin od_mul (de_var 3) de_int) (de_var 4))))))))
/-! ### _law_e_pick -/
abbrev st__law_e_pick : Stmt := topS 12
abbrev N__law_e_pick : List Str := ["deck", "many", "place", "cell", "picked"]
theorem sc__law_e_pick : FnScope N__law_e_pick ["deck", "many"] (defScope st__law_e_pick) := ⟨rfl, rfl, rfl, by decide +kernel, rfl, by decide +kernel, by decide +kernel⟩
def d__law_e_pick : DS := (sSeq (sIf (dTst (dBin oLt (dBin oIx (dVar 0) (dC (.int 2))) (dVar 1)))
  (sSeq (sSet 2 (dBin oIx (dVar 0) (dC (.int 1))))
  (sSeq (sSet 3 (dBin oMul (dC (.int 7)) (dVar 2)))
  (sSeq (sIf (dTst (dBin oLt (dVar 2) (dCall oLen (aCons (dBin oIx (dVar 0) (dC (.int 0))) aNil))))
  (sSet 3 (dBin oIx (dBin oIx (dVar 0) (dC (.int 0))) (dVar 2)))
  (sIf (dTst (dBin oGt (dCall oLen (aCons (dBin oIx (dVar 0) (dC (.int 0))) aNil)) (dC (.int 0))))
  (sSet 3 (dBin oAdd (dBin oMod (dBin oIx (dBin oIx (dVar 0) (dC (.int 0))) (dBin oMod (dBin oMul (dVar 2) (dC (.int 11))) (dCall oLen (aCons (dBin oIx (dVar 0) (dC (.int 0))) aNil)))) (dC (.int 999999937))) (dBin oMul (dVar 2) (dC (.int 3000000)))))
  sNil))
  (sSeq (sPutL (dVar 0) (dC (.int 1)) (dBin oAdd (dVar 2) (dC (.int 1))))
  (sPutL (dVar 0) (dC (.int 2)) (dCallF f__law_e_mixed (aCons (dVar 3) (aCons (dVar 2) aNil))))))))
  sNil)
  (sSeq (sSet 4 (dBin oMod (dBin oIx (dVar 0) (dC (.int 2))) (dVar 1)))
  (sSeq (sPutL (dVar 0) (dC (.int 2)) (dBin oDiv (dBin oIx (dVar 0) (dC (.int 2))) (dVar 1)))
  (sRet (dVar 4)))))
def f__law_e_pick : Fn := dFun0 5 d__law_e_pick
theorem ok__law_e_pick {k : Nat} {f : Addr} {fd : FuncData} (F : Fun K "_law_e_pick" "_law_e_pick" st__law_e_pick f fd) (b : Binds K fd ["deck", "many"] []) (m : mg "_law_e_pick" = some (.ref f)) (c__law_e_mixed : Callee P w K mg base CX0 k "_law_e_mixed" 2 f__law_e_mixed) (m_len : mg "len" = none) : Callee P w K mg base CX0 (k + 1) "_law_e_pick" 2 f__law_e_pick := by
  have sc := sc__law_e_pick
  refine ⟨f, fd, ["deck", "many"], Fun.okD F sc rfl fun cdv A outer s H E hr => ?_, m, F.kp, b⟩
  exact (ds_cons (ds_if (dt_cmp od_lt (de_ix xd_ix (de_var 0) de_int (fun _ _ => rfl)) (de_var 1) (nomark _))
  (ds_cons (ds_set 2 sc.nd (de_ix xd_ix (de_var 0) de_int (fun _ _ => rfl)))
  (ds_cons (ds_set 3 sc.nd (de_bin od_mul de_int (de_var 2)))
  (ds_cons (ds_if (dt_cmp od_lt (de_var 2) (de_callB cd_len rfl m_len PySem.boot_len (da_cons (de_ix xd_ix (de_var 0) de_int (fun _ _ => rfl)) da_nil)) (nomark _))
  (ds_one (ds_set 3 sc.nd (de_ix xd_ix (de_ix xd_ix (de_var 0) de_int (fun _ _ => rfl)) (de_var 2) (fun _ _ => rfl))))
  (ds_one (ds_if (dt_cmp od_gt (de_callB cd_len rfl m_len PySem.boot_len (da_cons (de_ix xd_ix (de_var 0) de_int (fun _ _ => rfl)) da_nil)) de_int (nomark _))
  (ds_one (ds_set 3 sc.nd (de_bin od_add (de_bin od_mod (de_ix xd_ix (de_ix xd_ix (de_var 0) de_int (fun _ _ => rfl)) (de_bin od_mod (de_bin od_mul (de_var 2) de_int) (de_callB cd_len rfl m_len PySem.boot_len (da_cons (de_ix xd_ix (de_var 0) de_int (fun _ _ => rfl)) da_nil))) (fun _ _ => rfl)) de_int) (de_bin od_mul (de_var 2) de_int))))
  ds_nil)))
  (ds_cons (ds_putL (de_var 0) de_int (de_bin od_add (de_var 2) de_int))
  (ds_one (ds_putL (de_var 0) de_int (de_callC c__law_e_mixed hr thru0 (an_cons (de_var 3) (an_cons (de_var 2) an_nil)))))))))
  ds_nil)
  (ds_cons (ds_set 4 sc.nd (de_bin od_mod (de_ix xd_ix (de_var 0) de_int (fun _ _ => rfl)) (de_var 1)))
  (ds_cons (ds_putL (de_var 0) de_int (de_bin od_div (de_ix xd_ix (de_var 0) de_int (fun _ _ => rfl)) (de_var 1)))
  (ds_one (ds_ret (de_var 4))))))
/-! ### _law_e_meeting -/
abbrev st__law_e_meeting : Stmt := topS 13
abbrev N__law_e_meeting : List Str := ["deck", "great", "many", "most", "counts", "hand"]
theorem sc__law_e_meeting : FnScope N__law_e_meeting ["deck", "great"] (defScope st__law_e_meeting) := ⟨rfl, rfl, rfl, by decide +kernel, rfl, by decide +kernel, by decide +kernel⟩
def d__law_e_meeting : DS := (sSeq (sSet 2 (dBin oAdd (dC (.int 1)) (dCallF f__law_e_pick (aCons (dVar 0) (aCons (dC (.int 5)) aNil)))))
  (sSeq (sSet 3 (dC (.int 4)))
  (sSeq (sIf (bNot (dTst (dVar 1)))
  (sSet 3 (dBin oIx (dLst (aCons (dC (.int 4)) (aCons (dC (.int 4)) (aCons (dC (.int 4)) (aCons (dC (.int 2)) (aCons (dC (.int 1)) aNil)))))) (dBin oSub (dVar 2) (dC (.int 1)))))
  sNil)
  (sSeq (sSet 4 (dComp (iRange1 (aCons (dVar 2) aNil)) (gN 5) [5] bYes (dCallF f__law_e_pick (aCons (dVar 0) (aCons (dBin oAdd (dVar 3) (dC (.int 1))) aNil)))))
  (sSeq (sIf (dTst (dBin oEq (dCallF f__law_e_pick (aCons (dVar 0) (aCons (dC (.int 3)) aNil))) (dC (.int 0))))
  (sSet 4 (dComp (iRange1 (aCons (dVar 2) aNil)) (gN 5) [5] bYes (dBin oIx (dVar 4) (dC (.int 0)))))
  sNil)
  (sRet (dTup (aCons (dBin oAdd (dC (.int 1)) (dCallF f__law_e_pick (aCons (dVar 0) (aCons (dC (.int 5)) aNil)))) (aCons (dCall oTuple (aCons (dVar 4) aNil)) aNil)))))))))
def f__law_e_meeting : Fn := dFun0 6 d__law_e_meeting
theorem ok__law_e_meeting {k : Nat} {f : Addr} {fd : FuncData} (F : Fun K "_law_e_meeting" "_law_e_meeting" st__law_e_meeting f fd) (b : Binds K fd ["deck", "great"] []) (m : mg "_law_e_meeting" = some (.ref f)) (c__law_e_pick : Callee P w K mg base CX0 k "_law_e_pick" 2 f__law_e_pick) (m_range : mg "range" = none) (m_tuple : mg "tuple" = none) : Callee P w K mg base CX0 (k + 1) "_law_e_meeting" 2 f__law_e_meeting := by
  have sc := sc__law_e_meeting
  refine ⟨f, fd, ["deck", "great"], Fun.okD F sc rfl fun cdv A outer s H E hr => ?_, m, F.kp, b⟩
  exact (ds_cons (ds_set 2 sc.nd (de_bin od_add de_int (de_callC c__law_e_pick hr thru0 (an_cons (de_var 0) (an_cons de_int an_nil)))))
  (ds_cons (ds_set 3 sc.nd de_int)
  (ds_cons (ds_if (dt_not (dt_val (de_var 1)))
  (ds_one (ds_set 3 sc.nd (de_ix xd_ix (de_lst (da_cons de_int (da_cons de_int (da_cons de_int (da_cons de_int (da_cons de_int da_nil)))))) (de_bin od_sub (de_var 2) de_int) (fun _ _ => rfl))))
  ds_nil)
  (ds_cons (ds_set 4 sc.nd (de_comp (own := [("hand", 5)]) (by rfl) sc.nd (di_range1 rfl m_range (da_cons (de_var 2) da_nil)) (blkOk_by (own := [("hand", 5)]) (N := N__law_e_meeting) (sc := defScope st__law_e_meeting) (by decide +kernel)) (by decide) (fun _ _ _ _ _ => (dg_name 5 sc.nd)) (fun _ _ _ _ _ => dts_nil) (fun _ _ _ _ _ => (de_callC c__law_e_pick hr thru0 (an_cons (de_var 0) (an_cons (de_bin od_add (de_var 3) de_int) an_nil))))))
  (ds_cons (ds_if (dt_cmp (od_eq hr.units) (de_callC c__law_e_pick hr thru0 (an_cons (de_var 0) (an_cons de_int an_nil))) de_int (nomark _))
  (ds_one (ds_set 4 sc.nd (de_comp (own := [("hand", 5)]) (by rfl) sc.nd (di_range1 rfl m_range (da_cons (de_var 2) da_nil)) (blkOk_by (own := [("hand", 5)]) (N := N__law_e_meeting) (sc := defScope st__law_e_meeting) (by decide +kernel)) (by decide) (fun _ _ _ _ _ => (dg_name 5 sc.nd)) (fun _ _ _ _ _ => dts_nil) (fun _ _ _ _ _ => (de_ix xd_ix (de_var 4) de_int (fun _ _ => rfl))))))
  ds_nil)
  (ds_one (ds_ret (de_tup (da_cons (de_bin od_add de_int (de_callC c__law_e_pick hr thru0 (an_cons (de_var 0) (an_cons de_int an_nil)))) (da_cons (de_callTy cd_tuple rfl m_tuple (by decide +kernel) (da_cons (de_var 4) da_nil)) da_nil))))))))))
/-! ### _law_e_groups -/
abbrev st__law_e_groups : Stmt := topS 14
abbrev N__law_e_groups : List Str := ["k", "counts", "found", "hand", "one"]
theorem sc__law_e_groups : FnScope N__law_e_groups ["k", "counts"] (defScope st__law_e_groups) := ⟨rfl, rfl, rfl, by decide +kernel, rfl, by decide +kernel, by decide +kernel⟩
def d__law_e_groups : DS := (sSeq (sSet 2 (dLst (aCons (dTup aNil) aNil)))
  (sSeq (sFor (iRange1 (aCons (dCall oLen (aCons (dVar 1) aNil)) aNil)) (gN 3)
  (sIf (dTst (dBin oGt (dBin oIx (dVar 1) (dVar 3)) (dC (.int 0))))
  (sSet 2 (dBin oAdd (dVar 2) (dComp (iSeq (dVar 2)) (gN 4) [4] bYes (dBin oAdd (dVar 4) (dTup (aCons (dVar 3) aNil))))))
  sNil))
  (sRet (dCall oSorted (aCons (dComp (iSeq (dVar 2)) (gN 4) [4] (dTst (dBin oEq (dCall oLen (aCons (dVar 4) aNil)) (dVar 0))) (dVar 4)) aNil)))))
def f__law_e_groups : Fn := dFun0 5 d__law_e_groups
theorem ok__law_e_groups {k : Nat} {f : Addr} {fd : FuncData} (F : Fun K "_law_e_groups" "_law_e_groups" st__law_e_groups f fd) (b : Binds K fd ["k", "counts"] []) (m : mg "_law_e_groups" = some (.ref f)) (m_range : mg "range" = none) (m_len : mg "len" = none) (m_sorted : mg "sorted" = none) : Callee P w K mg base CX0 (k + 1) "_law_e_groups" 2 f__law_e_groups := by
  have sc := sc__law_e_groups
  refine ⟨f, fd, ["k", "counts"], Fun.okD F sc rfl fun cdv A outer s H E hr => ?_, m, F.kp, b⟩
  exact (ds_cons (ds_set 2 sc.nd (de_lst (da_cons (de_tup da_nil) da_nil)))
  (ds_cons (ds_for PassesOwn.never (by rfl) (di_range1 rfl m_range (da_cons (de_callB cd_len rfl m_len PySem.boot_len (da_cons (de_var 1) da_nil)) da_nil)) (dg_name 3 sc.nd)
  (ds_one (ds_if (dt_cmp od_gt (de_ix xd_ix (de_var 1) (de_var 3) (fun _ _ => rfl)) de_int (nomark _))
  (ds_one (ds_set 2 sc.nd (de_bin od_add (de_var 2) (de_comp (own := [("one", 4)]) (by rfl) sc.nd (di_seq (de_var 2)) (blkOk_by (own := [("one", 4)]) (N := N__law_e_groups) (sc := defScope st__law_e_groups) (by decide +kernel)) (by decide) (fun _ _ _ _ _ => (dg_name 4 sc.nd)) (fun _ _ _ _ _ => dts_nil) (fun _ _ _ _ _ => (de_bin od_add (de_var 4) (de_tup (da_cons (de_var 3) da_nil))))))))
  ds_nil)))
  (ds_one (ds_ret (de_callB cd_sorted rfl m_sorted (by decide +kernel) (da_cons (de_comp (own := [("one", 4)]) (by rfl) sc.nd (di_seq (de_var 2)) (blkOk_by (own := [("one", 4)]) (N := N__law_e_groups) (sc := defScope st__law_e_groups) (by decide +kernel)) (by decide) (fun _ _ _ _ _ => (dg_name 4 sc.nd)) (fun _ _ _ _ _ => (dts_one (dt_cmp (od_eq hr.units) (de_callB cd_len rfl m_len PySem.boot_len (da_cons (de_var 4) da_nil)) (de_var 0) (nomark _)))) (fun _ _ _ _ _ => (de_var 4))) da_nil))))))
/-! ### _law_e_met -/
abbrev st__law_e_met : Stmt := topS 15
abbrev N__law_e_met : List Str := ["counts", "group", "left", "hand"]
theorem sc__law_e_met : FnScope N__law_e_met ["counts", "group"] (defScope st__law_e_met) := ⟨rfl, rfl, rfl, by decide +kernel, rfl, by decide +kernel, by decide +kernel⟩
def d__law_e_met : DS := (sSeq (sSet 2 (dCallN oListN (aCons (dVar 0) aNil)))
  (sSeq (sFor (iSeq (dVar 1)) (gN 3)
  (sPutL (dVar 2) (dVar 3) (dBin oSub (dBin oIx (dVar 2) (dVar 3)) (dC (.int 1)))))
  (sRet (dCall oTuple (aCons (dVar 2) aNil)))))
noncomputable def f__law_e_met : Fn := frzF (dFun0 4 d__law_e_met)
theorem ok__law_e_met {k : Nat} {f : Addr} {fd : FuncData} (F : Fun K "_law_e_met" "_law_e_met" st__law_e_met f fd) (b : Binds K fd ["counts", "group"] []) (m : mg "_law_e_met" = some (.ref f)) (m_list : mg "list" = none) (m_tuple : mg "tuple" = none) : Callee P w K mg base CX0 (k + 1) "_law_e_met" 2 f__law_e_met := by
  have sc := sc__law_e_met
  refine Callee.frz ⟨f, fd, ["counts", "group"], Fun.okD F sc rfl fun cdv A outer s H E hr => ?_, m, F.kp, b⟩
  exact (ds_cons (ds_set 2 sc.nd (de_callTyN cn_list rfl m_list (by decide +kernel) (da_cons (de_var 0) da_nil)))
  (ds_cons (ds_for PassesOwn.never (by rfl) (di_seq (de_var 1)) (dg_name 3 sc.nd)
  (ds_one (ds_putL (de_var 2) (de_var 3) (de_bin od_sub (de_ix xd_ix (de_var 2) (de_var 3) (fun _ _ => rfl)) de_int))))
  (ds_one (ds_ret (de_callTy cd_tuple rfl m_tuple (by decide +kernel) (da_cons (de_var 2) da_nil))))))
/-! ### _law_e_search -/
abbrev st__law_e_search : Stmt := topS 16
abbrev N__law_e_search : List Str := ["meeting", "k", "counts", "known", "level", "depth", "fresh", "here", "some", "group", "there"]
theorem sc__law_e_search : FnScope N__law_e_search ["meeting"] (defScope st__law_e_search) := ⟨rfl, rfl, rfl, by decide +kernel, rfl, by decide +kernel, by decide +kernel⟩
noncomputable def d__law_e_search : DS := (sSeq (sAsg (dVar 0) (gTupD 2 (gsCons (gN 1) (gsCons (gN 2) gsNil))))
  (sSeq (sSet 3 (dDisp1T (dVar 2) (dC (.int 0))))
  (sSeq (sSet 4 (dLst (aCons (dVar 2) aNil)))
  (sSeq (sSet 5 (dC (.int 0)))
  (sSeq (sWhile (dTst (dBin oNe (dVar 4) (dLst aNil)))
  (sSeq (sSet 6 (dCell aNil))
  (sSeq (sForA (dVar 4) (gN 7)
  (sSeq (sSet 8 (dCallF f__law_e_groups (aCons (dVar 1) (aCons (dVar 7) aNil))))
  (sSeq (sIf (bAnd (dTst (dBin oEq (dVar 8) (dLst aNil))) (dTst (dBin oGt (dCall oSum (aCons (dVar 7) aNil)) (dC (.int 0)))))
  (sRet (dTup (aCons (dVar 3) (aCons (dVar 5) aNil))))
  sNil)
  (sFor (iSeq (dVar 8)) (gN 9)
  (sSeq (sSet 10 (dCallF f__law_e_met (aCons (dVar 7) (aCons (dVar 9) aNil))))
  (sIf (dTst (dBin (oInT true) (dVar 10) (dVar 3)))
  (sSeq (sPutT (dVar 3) (dVar 10) (dBin oAdd (dVar 5) (dC (.int 1))))
  (sExpr (dAppend (dVar 6) (dVar 10))))
  sNil))))))
  (sSeq (sSet 5 (dBin oAdd (dVar 5) (dC (.int 1))))
  (sSet 4 (dVar 6))))))
  (sRet (dTup (aCons (dVar 3) (aCons (dUn oNeg (dC (.int 1))) aNil)))))))))
noncomputable def f__law_e_search : Fn := dFun0 11 d__law_e_search
theorem ok__law_e_search {k : Nat} {f : Addr} {fd : FuncData} (F : Fun K "_law_e_search" "_law_e_search" st__law_e_search f fd) (b : Binds K fd ["meeting"] []) (m : mg "_law_e_search" = some (.ref f)) (c__law_e_groups : Callee P w K mg base CX0 k "_law_e_groups" 2 f__law_e_groups) (c__law_e_met : Callee P w K mg base CX0 k "_law_e_met" 2 f__law_e_met) (m_sum : mg "sum" = none) : Callee P w K mg base CX0 (k + 1) "_law_e_search" 1 f__law_e_search := by
  have sc := sc__law_e_search
  refine ⟨f, fd, ["meeting"], Fun.okD F sc rfl fun cdv A outer s H E hr => ?_, m, F.kp, b⟩
  exact (ds_cons (ds_asg (de_var 0) (dg_tup (by rfl) (dgs_cons (dg_name 1 sc.nd) (dgs_cons (dg_name 2 sc.nd) dgs_nil))))
  (ds_cons (ds_set 3 sc.nd (de_disp1T (hu1 hr) (de_var 2) de_int))
  (ds_cons (ds_set 4 sc.nd (de_lst (da_cons (de_var 2) da_nil)))
  (ds_cons (ds_set 5 sc.nd de_int)
  (ds_cons (ds_while PassesOwn.never (dt_cmp (od_ne hr.units) (de_var 4) (de_lst da_nil) (nomark _))
  (ds_cons (ds_set 6 sc.nd (de_cell da_nil))
  (ds_cons (ds_forA PassesOwn.never (by rfl) (de_var 4) (dg_name 7 sc.nd)
  (ds_cons (ds_set 8 sc.nd (de_callC c__law_e_groups hr thru0 (an_cons (de_var 1) (an_cons (de_var 7) an_nil))))
  (ds_cons (ds_if (PW.pt (dw_and (dt_cmp (od_eq hr.units) (de_var 8) (de_lst da_nil) (nomark _)) (dw_and1 (dt_cmp od_gt (de_callB (cd_sum (by rfl)) rfl m_sum (by decide +kernel) (da_cons (de_var 7) da_nil)) de_int (nomark _)))))
  (ds_one (ds_ret (de_tup (da_cons (de_var 3) (da_cons (de_var 5) da_nil)))))
  ds_nil)
  (ds_one (ds_for PassesOwn.never (by rfl) (di_seq (de_var 8)) (dg_name 9 sc.nd)
  (ds_cons (ds_set 10 sc.nd (de_callC c__law_e_met hr thru0 (an_cons (de_var 7) (an_cons (de_var 9) an_nil))))
  (ds_one (ds_if (dt_cmp (od_notInT (hu1 hr)) (de_var 10) (de_var 3) (by rfl))
  (ds_cons (ds_putT (hu1 hr) (de_var 3) (de_var 10) (de_bin od_add (de_var 5) de_int))
  (ds_one (ds_expr (de_append (pe_bm PySem.F.plainAttrs_list PySem.F.slot_list_append PySem.F.type_list_append mt_append (de_var 6) (pa_cons (de_var 10) pa_nil))))))
  ds_nil))))))))
  (ds_cons (ds_set 5 sc.nd (de_bin od_add (de_var 5) de_int))
  (ds_one (ds_set 4 sc.nd (de_var 6)))))))
  (ds_one (ds_ret (de_tup (da_cons (de_var 3) (da_cons (de_un ud_neg de_int) da_nil))))))))))
/-! ### _law_e_due -/
abbrev st__law_e_due : Stmt := topS 17
abbrev N__law_e_due : List Str := ["meeting", "stands", "k", "counts", "known", "stand", "some", "group", "count"]
theorem sc__law_e_due : FnScope N__law_e_due ["meeting", "stands"] (defScope st__law_e_due) := ⟨rfl, rfl, rfl, by decide +kernel, rfl, by decide +kernel, by decide +kernel⟩
noncomputable def d__law_e_due : DS := (sSeq (sAsg (dVar 0) (gTupD 2 (gsCons (gN 2) (gsCons (gN 3) gsNil))))
  (sSeq (sSet 4 (dNewT))
  (sSeq (sFor (iSeq (dVar 1)) (gN 5)
  (sPutT (dVar 4) (dVar 5) (dC (.bl true))))
  (sSeq (sIf (bOr (dTst (dBin oNe (dCall oLenA (aCons (dVar 4) aNil)) (dCall oLen (aCons (dVar 1) aNil)))) (dTst (dBin (oInT true) (dVar 3) (dVar 4))))
  (sRet (dC (.bl false)))
  sNil)
  (sSeq (sFor (iSeq (dVar 1)) (gN 5)
  (sSeq (sIf (bOr (dTst (dBin oNe (dCall oLen (aCons (dVar 5) aNil)) (dCall oLen (aCons (dVar 3) aNil)))) (bNot (dTst (dCall oAll (aCons (dComp (iSeq (dVar 5)) (gN 8) [8] bYes (dChain oLe oLe (dC (.int 0)) (dVar 8) (dC (.int 4)))) aNil)))))
  (sRet (dC (.bl false)))
  sNil)
  (sSeq (sSet 6 (dCallF f__law_e_groups (aCons (dVar 2) (aCons (dVar 5) aNil))))
  (sSeq (sIf (bAnd (dTst (dBin oEq (dVar 6) (dLst aNil))) (dTst (dBin oGt (dCall oSum (aCons (dVar 5) aNil)) (dC (.int 0)))))
  (sRet (dC (.bl false)))
  sNil)
  (sFor (iSeq (dVar 6)) (gN 7)
  (sIf (dTst (dBin (oInT true) (dCallF f__law_e_met (aCons (dVar 5) (aCons (dVar 7) aNil))) (dVar 4)))
  (sRet (dC (.bl false)))
  sNil))))))
  (sRet (dC (.bl true))))))))
noncomputable def f__law_e_due : Fn := frzF (dFun0 9 d__law_e_due)
theorem ok__law_e_due {k : Nat} {f : Addr} {fd : FuncData} (F : Fun K "_law_e_due" "_law_e_due" st__law_e_due f fd) (b : Binds K fd ["meeting", "stands"] []) (m : mg "_law_e_due" = some (.ref f)) (c__law_e_groups : Callee P w K mg base CX0 k "_law_e_groups" 2 f__law_e_groups) (c__law_e_met : Callee P w K mg base CX0 k "_law_e_met" 2 f__law_e_met) (m_len : mg "len" = none) (m_all : mg "all" = none) (m_sum : mg "sum" = none) : Callee P w K mg base CX0 (k + 1) "_law_e_due" 2 f__law_e_due := by
  have sc := sc__law_e_due
  refine Callee.frz ⟨f, fd, ["meeting", "stands"], Fun.okD F sc rfl fun cdv A outer s H E hr => ?_, m, F.kp, b⟩
  exact (ds_cons (ds_asg (de_var 0) (dg_tup (by rfl) (dgs_cons (dg_name 2 sc.nd) (dgs_cons (dg_name 3 sc.nd) dgs_nil))))
  (ds_cons (ds_set 4 sc.nd de_newT)
  (ds_cons (ds_for PassesOwn.never (by rfl) (di_seq (de_var 1)) (dg_name 5 sc.nd)
  (ds_one (ds_putT (hu1 hr) (de_var 4) (de_var 5) de_bl)))
  (ds_cons (ds_if (PW.pt (dw_or (dt_cmp (od_ne hr.units) (de_callB cd_lenA rfl m_len PySem.boot_len (da_cons (de_var 4) da_nil)) (de_callB cd_len rfl m_len PySem.boot_len (da_cons (de_var 1) da_nil)) (nomark _)) (dw_or1 (dt_cmp (od_notInT (hu1 hr)) (de_var 3) (de_var 4) (by rfl)))))
  (ds_one (ds_ret de_bl))
  ds_nil)
  (ds_cons (ds_for PassesOwn.never (by rfl) (di_seq (de_var 1)) (dg_name 5 sc.nd)
  (ds_cons (ds_if (PW.pt (dw_or (dt_cmp (od_ne hr.units) (de_callB cd_len rfl m_len PySem.boot_len (da_cons (de_var 5) da_nil)) (de_callB cd_len rfl m_len PySem.boot_len (da_cons (de_var 3) da_nil)) (nomark _)) (dw_or1 (dt_not (dt_val (de_callB (cd_all (by rfl)) rfl m_all (by decide +kernel) (da_cons (de_comp (own := [("count", 8)]) (by rfl) sc.nd (di_seq (de_var 5)) (blkOk_by (own := [("count", 8)]) (N := N__law_e_due) (sc := defScope st__law_e_due) (by decide +kernel)) (by decide) (fun _ _ _ _ _ => (dg_name 8 sc.nd)) (fun _ _ _ _ _ => dts_nil) (fun _ _ _ _ _ => (de_chain od_le od_le de_int (de_var 8) de_int))) da_nil)))))))
  (ds_one (ds_ret de_bl))
  ds_nil)
  (ds_cons (ds_set 6 sc.nd (de_callC c__law_e_groups hr thru0 (an_cons (de_var 2) (an_cons (de_var 5) an_nil))))
  (ds_cons (ds_if (PW.pt (dw_and (dt_cmp (od_eq hr.units) (de_var 6) (de_lst da_nil) (nomark _)) (dw_and1 (dt_cmp od_gt (de_callB (cd_sum (by rfl)) rfl m_sum (by decide +kernel) (da_cons (de_var 5) da_nil)) de_int (nomark _)))))
  (ds_one (ds_ret de_bl))
  ds_nil)
  (ds_one (ds_for PassesOwn.never (by rfl) (di_seq (de_var 6)) (dg_name 7 sc.nd)
  (ds_one (ds_if (dt_cmp (od_notInT (hu1 hr)) (de_callC c__law_e_met hr thru0 (an_cons (de_var 5) (an_cons (de_var 7) an_nil))) (de_var 4) (by rfl))
  (ds_one (ds_ret de_bl))
  ds_nil))))))))
  (ds_one (ds_ret de_bl)))))))
/-! ### _law_e_bent -/
abbrev st__law_e_bent : Stmt := topS 18
abbrev N__law_e_bent : List Str := ["deck", "meeting", "stands", "at", "stand", "hand", "more", "less", "way", "known", "strange", "there", "count"]
theorem sc__law_e_bent : FnScope N__law_e_bent ["deck", "meeting", "stands"] (defScope st__law_e_bent) := ⟨rfl, rfl, rfl, by decide +kernel, rfl, by decide +kernel, by decide +kernel⟩
noncomputable def d__law_e_bent : DS := (sSeq (sSet 3 (dCallF f__law_e_pick (aCons (dVar 0) (aCons (dCall oLen (aCons (dVar 2) aNil)) aNil))))
  (sSeq (sSet 4 (dBin oIx (dVar 2) (dVar 3)))
  (sSeq (sSet 5 (dCallF f__law_e_pick (aCons (dVar 0) (aCons (dCall oLen (aCons (dVar 4) aNil)) aNil))))
  (sSeq (sSet 6 (dBin oAdd (dBin oAdd (dSl oSl (dVar 4) oNo (oSo (dVar 5))) (dTup (aCons (dBin oAdd (dBin oIx (dVar 4) (dVar 5)) (dC (.int 1))) aNil))) (dSl oSl (dVar 4) (oSo (dBin oAdd (dVar 5) (dC (.int 1)))) oNo)))
  (sSeq (sSet 7 (dBin oAdd (dBin oAdd (dSl oSl (dVar 4) oNo (oSo (dVar 5))) (dTup (aCons (dBin oSub (dBin oIx (dVar 4) (dVar 5)) (dC (.int 1))) aNil))) (dSl oSl (dVar 4) (oSo (dBin oAdd (dVar 5) (dC (.int 1)))) oNo)))
  (sSeq (sSet 8 (dCallF f__law_e_pick (aCons (dVar 0) (aCons (dC (.int 10)) aNil))))
  (sSeq (sIf (dTst (dBin oEq (dVar 8) (dC (.int 0))))
  (sRet (dRev (dVar 2)))
  sNil)
  (sSeq (sIf (dTst (dBin oEq (dVar 8) (dC (.int 1))))
  (sRet (dBin oAdd (dSl oSl (dVar 2) oNo (oSo (dVar 3))) (dSl oSl (dVar 2) (oSo (dBin oAdd (dVar 3) (dC (.int 1)))) oNo)))
  sNil)
  (sSeq (sIf (dTst (dBin oEq (dVar 8) (dC (.int 2))))
  (sRet (dBin oAdd (dVar 2) (dLst (aCons (dVar 4) aNil))))
  sNil)
  (sSeq (sIf (dTst (dBin oEq (dVar 8) (dC (.int 3))))
  (sRet (dSl oSl (dVar 2) (oSo (dC (.int 1))) oNo))
  sNil)
  (sSeq (sIf (dTst (dBin oEq (dVar 8) (dC (.int 4))))
  (sSeq (sSet 9 (dBin oIx (dCallF f__law_e_search (aCons (dTup (aCons (dBin oIx (dVar 1) (dC (.int 0))) (aCons (dCall oTuple (aCons (dComp (iSeq (dVar 6)) (gN 12) [12] bYes (dCall oMin2 (aCons (dC (.int 4)) (aCons (dVar 12) aNil)))) aNil)) aNil))) aNil)) (dC (.int 0))))
  (sRet (dBin oAdd (dVar 2) (dComp (iSeq (dCall oListA (aCons (dVar 9) aNil))) (gN 11) [11] (dTst (dBin (oIn true) (dVar 11) (dVar 2))) (dVar 11)))))
  sNil)
  (sSeq (sSet 10 (dLst (aCons (dVar 6) (aCons (dVar 7) (aCons (dBin oAdd (dVar 4) (dTup (aCons (dC (.int 0)) aNil))) (aCons (dSl oSl (dVar 4) (oSo (dC (.int 1))) oNo) (aCons (dBin oAdd (dBin oAdd (dSl oSl (dVar 4) oNo (oSo (dVar 5))) (dTup (aCons (dC (.int 5)) aNil))) (dSl oSl (dVar 4) (oSo (dBin oAdd (dVar 5) (dC (.int 1)))) oNo)) aNil)))))))
  (sRet (dBin oAdd (dLst (aCons (dBin oIx (dVar 10) (dBin oSub (dVar 8) (dC (.int 5)))) aNil)) (dVar 2)))))))))))))))
noncomputable def f__law_e_bent : Fn := dFun0 13 d__law_e_bent
theorem ok__law_e_bent {k : Nat} {f : Addr} {fd : FuncData} (F : Fun K "_law_e_bent" "_law_e_bent" st__law_e_bent f fd) (b : Binds K fd ["deck", "meeting", "stands"] []) (m : mg "_law_e_bent" = some (.ref f)) (c__law_e_pick : Callee P w K mg base CX0 k "_law_e_pick" 2 f__law_e_pick) (c__law_e_search : Callee P w K mg base CX0 k "_law_e_search" 1 f__law_e_search) (m_len : mg "len" = none) (m_tuple : mg "tuple" = none) (m_min : mg "min" = none) (m_list : mg "list" = none) : Callee P w K mg base CX0 (k + 1) "_law_e_bent" 3 f__law_e_bent := by
  have sc := sc__law_e_bent
  refine ⟨f, fd, ["deck", "meeting", "stands"], Fun.okD F sc rfl fun cdv A outer s H E hr => ?_, m, F.kp, b⟩
  exact (ds_cons (ds_set 3 sc.nd (de_callC c__law_e_pick hr thru0 (an_cons (de_var 0) (an_cons (de_callB cd_len rfl m_len PySem.boot_len (da_cons (de_var 2) da_nil)) an_nil))))
  (ds_cons (ds_set 4 sc.nd (de_ix xd_ix (de_var 2) (de_var 3) (fun _ _ => rfl)))
  (ds_cons (ds_set 5 sc.nd (de_callC c__law_e_pick hr thru0 (an_cons (de_var 0) (an_cons (de_callB cd_len rfl m_len PySem.boot_len (da_cons (de_var 4) da_nil)) an_nil))))
  (ds_cons (ds_set 6 sc.nd (de_bin od_add (de_bin od_add (de_slice sd_sl (de_var 4) do_no (do_so (de_var 5))) (de_tup (da_cons (de_bin od_add (de_ix xd_ix (de_var 4) (de_var 5) (fun _ _ => rfl)) de_int) da_nil))) (de_slice sd_sl (de_var 4) (do_so (de_bin od_add (de_var 5) de_int)) do_no)))
  (ds_cons (ds_set 7 sc.nd (de_bin od_add (de_bin od_add (de_slice sd_sl (de_var 4) do_no (do_so (de_var 5))) (de_tup (da_cons (de_bin od_sub (de_ix xd_ix (de_var 4) (de_var 5) (fun _ _ => rfl)) de_int) da_nil))) (de_slice sd_sl (de_var 4) (do_so (de_bin od_add (de_var 5) de_int)) do_no)))
  (ds_cons (ds_set 8 sc.nd (de_callC c__law_e_pick hr thru0 (an_cons (de_var 0) (an_cons de_int an_nil))))
  (ds_cons (ds_if (dt_cmp (od_eq hr.units) (de_var 8) de_int (nomark _))
  (ds_one (ds_ret (de_rev (de_var 2))))
  ds_nil)
  (ds_cons (ds_if (dt_cmp (od_eq hr.units) (de_var 8) de_int (nomark _))
  (ds_one (ds_ret (de_bin od_add (de_slice sd_sl (de_var 2) do_no (do_so (de_var 3))) (de_slice sd_sl (de_var 2) (do_so (de_bin od_add (de_var 3) de_int)) do_no))))
  ds_nil)
  (ds_cons (ds_if (dt_cmp (od_eq hr.units) (de_var 8) de_int (nomark _))
  (ds_one (ds_ret (de_bin od_add (de_var 2) (de_lst (da_cons (de_var 4) da_nil)))))
  ds_nil)
  (ds_cons (ds_if (dt_cmp (od_eq hr.units) (de_var 8) de_int (nomark _))
  (ds_one (ds_ret (de_slice sd_sl (de_var 2) (do_so de_int) do_no)))
  ds_nil)
  (ds_cons (ds_if (dt_cmp (od_eq hr.units) (de_var 8) de_int (nomark _))
  (ds_cons (ds_set 9 sc.nd (de_ix xd_ix (de_callC c__law_e_search hr thru0 (an_cons (de_tup (da_cons (de_ix xd_ix (de_var 1) de_int (fun _ _ => rfl)) (da_cons (de_callTy cd_tuple rfl m_tuple (by decide +kernel) (da_cons (de_comp (own := [("count", 12)]) (by rfl) sc.nd (di_seq (de_var 6)) (blkOk_by (own := [("count", 12)]) (N := N__law_e_bent) (sc := defScope st__law_e_bent) (by decide +kernel)) (by decide) (fun _ _ _ _ _ => (dg_name 12 sc.nd)) (fun _ _ _ _ _ => dts_nil) (fun _ _ _ _ _ => (de_callB (cd_min2 (by rfl)) rfl m_min (by decide +kernel) (da_cons de_int (da_cons (de_var 12) da_nil))))) da_nil)) da_nil))) an_nil)) de_int (fun _ _ => rfl)))
  (ds_one (ds_ret (de_bin od_add (de_var 2) (de_comp (own := [("there", 11)]) (by rfl) sc.nd (di_seq (de_callTy (cd_listA (by rfl)) rfl m_list (by decide +kernel) (da_cons (de_var 9) da_nil))) (blkOk_by (own := [("there", 11)]) (N := N__law_e_bent) (sc := defScope st__law_e_bent) (by decide +kernel)) (by decide) (fun _ _ _ _ _ => (dg_name 11 sc.nd)) (fun _ _ _ _ _ => (dts_one (dt_cmp (od_notIn (hu65 hr)) (de_var 11) (de_var 2) (by rfl)))) (fun _ _ _ _ _ => (de_var 11)))))))
  ds_nil)
  (ds_cons (ds_set 10 sc.nd (de_lst (da_cons (de_var 6) (da_cons (de_var 7) (da_cons (de_bin od_add (de_var 4) (de_tup (da_cons de_int da_nil))) (da_cons (de_slice sd_sl (de_var 4) (do_so de_int) do_no) (da_cons (de_bin od_add (de_bin od_add (de_slice sd_sl (de_var 4) do_no (do_so (de_var 5))) (de_tup (da_cons de_int da_nil))) (de_slice sd_sl (de_var 4) (do_so (de_bin od_add (de_var 5) de_int)) do_no)) da_nil)))))))
  (ds_one (ds_ret (de_bin od_add (de_lst (da_cons (de_ix xd_ix (de_var 10) (de_bin od_sub (de_var 8) de_int) (fun _ _ => rfl)) da_nil)) (de_var 2))))))))))))))))
/-! ### law -/
abbrev st_law : Stmt := topS 19
abbrev N_law : List Str := ["script", "deck", "k", "meeting", "stands", "lists", "turn", "some", "handed", "found"]
theorem sc_law : FnScope N_law ["script"] (defScope st_law) := ⟨rfl, rfl, rfl, by decide +kernel, rfl, by decide +kernel, by decide +kernel⟩
noncomputable def d_law : DS := (sSeq (sSet 1 (dCell (aCons (dVar 0) (aCons (dC (.int 0)) (aCons (dC (.int 0)) aNil)))))
  (sSeq (sFor (iRange1 (aCons (dC (.int 3)) aNil)) (gN 2)
  (sSeq (sIf (bAnd (dTst (dBin oGt (dVar 2) (dC (.int 1)))) (dTst (dBin oGe (dBin oIx (dVar 1) (dC (.int 1))) (dCall oLen (aCons (dVar 0) aNil)))))
  (sFl .bk)
  sNil)
  (sSeq (sSet 3 (dCallF f__law_e_meeting (aCons (dVar 1) (aCons (dC (.bl false)) aNil))))
  (sSeq (sSet 4 (dCall oListA (aCons (dBin oIx (dCallF f__law_e_search (aCons (dVar 3) aNil)) (dC (.int 0))) aNil)))
  (sSeq (sSet 5 (dCell (aCons (dVar 4) (aCons (dLst aNil) (aCons (dLst (aCons (dBin oIx (dVar 3) (dC (.int 1))) aNil)) aNil)))))
  (sSeq (sFor (iRange1 (aCons (dC (.int 5)) aNil)) (gN 6)
  (sExpr (dAppend (dVar 5) (dCallF f__law_e_bent (aCons (dVar 1) (aCons (dVar 3) (aCons (dVar 4) aNil)))))))
  (sForC (dVar 5) (gN 7)
  (sSeq (sSet 8 (dCall oListA (aCons (dVar 7) aNil)))
  (sSeq (sSet 9 (dCallF f_are_ever (aCons (dVar 3) (aCons (dVar 8) aNil))))
  (sIf (bOr (bNot (dTst (dCall oIsInst (aCons (dVar 9) (aCons (dC (.ty "bool")) aNil))))) (bOr (dTst (dBin oNe (dVar 9) (dCallF f__law_e_due (aCons (dVar 3) (aCons (dVar 7) aNil))))) (dTst (dBin oNe (dVar 8) (dVar 7)))))
  (sRet (dC (.bl false)))
  sNil))))))))))
  (sRet (dC (.bl true)))))
noncomputable def f_law : Fn := dFun0 10 d_law
theorem ok_law {k : Nat} {f : Addr} {fd : FuncData} (F : Fun K "law" "law" st_law f fd) (c__law_e_meeting : Callee P w K mg base CX0 k "_law_e_meeting" 2 f__law_e_meeting) (c__law_e_search : Callee P w K mg base CX0 k "_law_e_search" 1 f__law_e_search) (c__law_e_bent : Callee P w K mg base CX0 k "_law_e_bent" 3 f__law_e_bent) (c_are_ever : Callee P w K mg base CX0 k "are_ever" 2 f_are_ever) (c__law_e_due : Callee P w K mg base CX0 k "_law_e_due" 2 f__law_e_due) (m_range : mg "range" = none) (m_len : mg "len" = none) (m_list : mg "list" = none) (m_isinstance : mg "isinstance" = none) (m_bool : mg "bool" = none) : FnOk P w K mg base CX0 (k + 1) f fd ["script"] (spD K mg 1 f_law) := by
  have sc := sc_law
  refine Fun.okD F sc rfl fun cdv A outer s H E hr => ?_
  exact (ds_cons (ds_set 1 sc.nd (de_cell (da_cons (de_var 0) (da_cons de_int (da_cons de_int da_nil)))))
  (ds_cons (ds_for PassesOwn.never (by rfl) (di_range1 rfl m_range (da_cons de_int da_nil)) (dg_name 2 sc.nd)
  (ds_cons (ds_if (PW.pt (dw_and (dt_cmp od_gt (de_var 2) de_int (nomark _)) (dw_and1 (dt_cmp od_ge (de_ix xd_ix (de_var 1) de_int (fun _ _ => rfl)) (de_callB cd_len rfl m_len PySem.boot_len (da_cons (de_var 0) da_nil)) (nomark _)))))
  (ds_one ds_break)
  ds_nil)
  (ds_cons (ds_set 3 sc.nd (de_callC c__law_e_meeting hr thru0 (an_cons (de_var 1) (an_cons de_bl an_nil))))
  (ds_cons (ds_set 4 sc.nd (de_callTy (cd_listA (by rfl)) rfl m_list (by decide +kernel) (da_cons (de_ix xd_ix (de_callC c__law_e_search hr thru0 (an_cons (de_var 3) an_nil)) de_int (fun _ _ => rfl)) da_nil)))
  (ds_cons (ds_set 5 sc.nd (de_cell (da_cons (de_var 4) (da_cons (de_lst da_nil) (da_cons (de_lst (da_cons (de_ix xd_ix (de_var 3) de_int (fun _ _ => rfl)) da_nil)) da_nil)))))
  (ds_cons (ds_for PassesOwn.never (by rfl) (di_range1 rfl m_range (da_cons de_int da_nil)) (dg_name 6 sc.nd)
  (ds_one (ds_expr (de_append (pe_bm PySem.F.plainAttrs_list PySem.F.slot_list_append PySem.F.type_list_append mt_append (de_var 5) (pa_cons (de_callC c__law_e_bent hr thru0 (an_cons (de_var 1) (an_cons (de_var 3) (an_cons (de_var 4) an_nil)))) pa_nil))))))
  (ds_one (ds_forC PassesOwn.never (by rfl) (de_var 5) (dg_name 7 sc.nd)
  (ds_cons (ds_set 8 sc.nd (de_callTy (cd_listA (by rfl)) rfl m_list (by decide +kernel) (da_cons (de_var 7) da_nil)))
  (ds_cons (ds_set 9 sc.nd (de_callC c_are_ever hr thru0 (an_cons (de_var 3) (an_cons (de_var 8) an_nil))))
  (ds_one (ds_if (PW.pt (dw_or (dt_not (dt_val (de_callB cd_isinst rfl m_isinstance (by decide +kernel) (da_cons (de_var 9) (da_cons (de_ty rfl m_bool (by decide +kernel)) da_nil))))) (dw_or (dt_cmp (od_ne hr.units) (de_var 9) (de_callC c__law_e_due hr thru0 (an_cons (de_var 3) (an_cons (de_var 7) an_nil))) (nomark _)) (dw_or1 (dt_cmp (od_ne hr.units) (de_var 8) (de_var 7) (nomark _))))))
  (ds_one (ds_ret de_bl))
  ds_nil))))))))))))
  (ds_one (ds_ret de_bl))))
end
end G
end DL
end L2

set_option Elab.async false
set_option linter.all false
set_option maxRecDepth 100000
namespace L2
namespace DL
open PySem PySem.Spec PyProof.Rows
/-! ### the deck -/
def deckC (ns : List Int) (p q : Int) : Cell := .lst [.fz (ns.map D.int), .int p, .int q]
namespace G
theorem mixed_spec (cell place : Int) (S : Sto) (hp : 0 ≤ place) : ∃ x, 0 ≤ x ∧ f__law_e_mixed [.int cell, .int place] S = .ok (.int x) S := by
  have m1 : (0 : Int) < 1999999973 := by decide
  have m2 : (0 : Int) < 2147483549 := by decide
  have m3 : (0 : Int) < 2147483497 := by decide
  have m0 : (0 : Int) < 1000000009 := by decide
  by_cases hc : (1000000000000000000 : Int) ≤ cell
  · refine ⟨cell, by omega, fun0_rt (env := [some (.int cell), some (.int place), none, none, none]) ?_⟩
    have pw : oPow S (.int 10) (.int 18) = some (.int 1000000000000000000) := rfl
    simp only [d__law_e_mixed, sSeq, sIf, sRet, sSet, sExpr, sAsg, sFl, sNil, sFor, dBin, dC, dCall, dCallF, aCons, aNil, dTst, dNot, dAnd, dOr, bAnd, bOr, bNot, dChain, dUn, dTup, dLst, dCell, dIf, iSeq, iRange1, iRange2, dVar, gN, gTupD, gsCons, gsNil, dSl, oNo, oSo, asI, dComp, wipeE, Out.bind_ok, Out.bind_exc, Out.bind_bad, lift_some, lift_none, asB_bl, add_ii, sub_ii, neg_i, lt_ii, le_ii, gt_ii, ge_ii, eq_ii, ne_ii, eq_ss, ne_ss, isnot_bb, is_bb, is_non, isnot_non, ix_tupD, ix_lstD, ix_fzD, at_lit0, at_lit1, at_lit2, at_lit3, len_fz, len_lst, len_tup, itemsOf, seqItems, List.map_cons, List.map_nil, List.length_cons, List.length_nil, List.getElem?_cons_zero, List.getElem?_cons_succ, List.set_cons_zero, List.set_cons_succ, List.cons_append, List.nil_append, List.replicate_succ, List.replicate_zero, Nat.reduceSub, Nat.reduceAdd, if_true, if_false, Bool.false_eq_true, Bool.true_eq_false, Bool.not_true, Bool.not_false, Option.bind_some, Option.map_some, Nat.zero_add, ite_true, ite_false, pw, decide_eq_true hc]
  · have pw : oPow S (.int 10) (.int 18) = some (.int 1000000000000000000) := rfl
    -- the letters
    obtain ⟨one, h1⟩ : ∃ one, one = (cell % 1000000009 * 75353 + place * 4099 + 17) % 1999999973 := ⟨_, rfl⟩
    obtain ⟨two, h2⟩ : ∃ two, two = (one * one + 8191 * one + 3 * place + 1) % 2147483549 := ⟨_, rfl⟩
    obtain ⟨more, h3⟩ : ∃ more, more = (two * two + 127 * place + one) % 2147483497 := ⟨_, rfl⟩
    have b1 : 0 ≤ one := by rw [h1]; exact Int.emod_nonneg _ (by decide)
    have c1 : one < 1999999973 := by rw [h1]; exact Int.emod_lt_of_pos _ m1
    have b2 : 0 ≤ two := by rw [h2]; exact Int.emod_nonneg _ (by decide)
    have c2 : two < 2147483549 := by rw [h2]; exact Int.emod_lt_of_pos _ m2
    have b3 : 0 ≤ more := by rw [h3]; exact Int.emod_nonneg _ (by decide)
    have x1 : ∀ z, oMul S (.int z) (.int 75353) = some (.int (z * 75353)) := fun z => mul_ii S (.inr (by decide))
    have x2 : oMul S (.int place) (.int 4099) = some (.int (place * 4099)) := mul_ii S (.inr (by decide))
    have x3 : oMul S (.int one) (.int one) = some (.int (one * one)) := mul_ii S (.inr (by omega))
    have x4 : oMul S (.int 8191) (.int one) = some (.int (8191 * one)) := mul_ii S (.inl (by decide))
    have x5 : oMul S (.int 3) (.int place) = some (.int (3 * place)) := mul_ii S (.inl (by decide))
    have x6 : oMul S (.int two) (.int two) = some (.int (two * two)) := mul_ii S (.inr (by omega))
    have x7 : oMul S (.int 127) (.int place) = some (.int (127 * place)) := mul_ii S (.inl (by decide))
    have x8 : oMul S (.int two) (.int 2147483497) = some (.int (two * 2147483497)) := mul_ii S (.inr (by decide))
    refine ⟨two * 2147483497 + more, by omega, fun0_rt (env := [some (.int cell), some (.int place), some (.int one), some (.int two), some (.int more)]) ?_⟩
    simp only [d__law_e_mixed, sSeq, sIf, sRet, sSet, sExpr, sAsg, sFl, sNil, sFor, dBin, dC, dCall, dCallF, aCons, aNil, dTst, dNot, dAnd, dOr, bAnd, bOr, bNot, dChain, dUn, dTup, dLst, dCell, dIf, iSeq, iRange1, iRange2, dVar, gN, gTupD, gsCons, gsNil, dSl, oNo, oSo, asI, dComp, wipeE, Out.bind_ok, Out.bind_exc, Out.bind_bad, lift_some, lift_none, asB_bl, add_ii, sub_ii, neg_i, lt_ii, le_ii, gt_ii, ge_ii, eq_ii, ne_ii, eq_ss, ne_ss, isnot_bb, is_bb, is_non, isnot_non, ix_tupD, ix_lstD, ix_fzD, at_lit0, at_lit1, at_lit2, at_lit3, len_fz, len_lst, len_tup, itemsOf, seqItems, List.map_cons, List.map_nil, List.length_cons, List.length_nil, List.getElem?_cons_zero, List.getElem?_cons_succ, List.set_cons_zero, List.set_cons_succ, List.cons_append, List.nil_append, List.replicate_succ, List.replicate_zero, Nat.reduceSub, Nat.reduceAdd, if_true, if_false, Bool.false_eq_true, Bool.true_eq_false, Bool.not_true, Bool.not_false, Option.bind_some, Option.map_some, Nat.zero_add, ite_true, ite_false, pw, decide_eq_false hc, mod_ii S m0, mod_ii S m1, x1, x2, ← h1, x3, x4, x5, mod_ii S m2, ← h2, x6, x7, mod_ii S m3, ← h3, x8]
theorem pick_spec (ns : List Int) (n : Nat) (S : Sto) (p q many : Int) (hS : S[n]? = some (deckC ns p q)) (hp : 0 ≤ p) (hq : 0 ≤ q) (hm : 1 ≤ many) (hm2 : many < 2 ^ 80) :
    ∃ v p' q', 0 ≤ v ∧ v < many ∧ 0 ≤ p' ∧ 0 ≤ q' ∧ f__law_e_pick [.ref n, .int many] S = .ok (.int v) (S.set n (deckC ns p' q')) := by
  have m0 : (0 : Int) < 999999937 := by decide
  -- the second half: from a deck with a number
  have rest : ∀ (env : Ev) (T : Sto) (p' q' : Int), env[0]? = some (some (.ref n)) → env[1]? = some (some (.int many)) → 4 < env.length → T[n]? = some (deckC ns p' q') → 0 ≤ q' →
      ∃ env', (sSeq (sSet 4 (dBin oMod (dBin oIx (dVar 0) (dC (.int 2))) (dVar 1))) (sSeq (sPutL (dVar 0) (dC (.int 2)) (dBin oDiv (dBin oIx (dVar 0) (dC (.int 2))) (dVar 1))) (sRet (dVar 4)))) env T = .ok (.rt (.int (q' % many)), env') (T.set n (deckC ns p' (q' / many))) := by
    intro env T p' q' h0 h1 hl hT hq'
    refine ⟨env.set 4 (some (.int (q' % many))), (seq_nx (env' := env.set 4 (some (.int (q' % many)))) (S' := T) ?_).trans ((seq_nx (env' := env.set 4 (some (.int (q' % many)))) (S' := T.set n (deckC ns p' (q' / many))) ?_).trans ?_)⟩
    · simp only [sSeq, sIf, sRet, sSet, sExpr, sAsg, sFl, sNil, sFor, dBin, dC, dCall, dCallF, aCons, aNil, dTst, dNot, dAnd, dOr, bAnd, bOr, bNot, dChain, dUn, dTup, dLst, dCell, dIf, iSeq, iRange1, iRange2, dVar, gN, gTupD, gsCons, gsNil, dSl, oNo, oSo, asI, dComp, wipeE, Out.bind_ok, Out.bind_exc, Out.bind_bad, lift_some, lift_none, asB_bl, add_ii, sub_ii, neg_i, lt_ii, le_ii, gt_ii, ge_ii, eq_ii, ne_ii, eq_ss, ne_ss, isnot_bb, is_bb, is_non, isnot_non, ix_tupD, ix_lstD, ix_fzD, at_lit0, at_lit1, at_lit2, at_lit3, len_fz, len_lst, len_tup, itemsOf, seqItems, List.map_cons, List.map_nil, List.length_cons, List.length_nil, List.getElem?_cons_zero, List.getElem?_cons_succ, List.set_cons_zero, List.set_cons_succ, List.cons_append, List.nil_append, List.replicate_succ, List.replicate_zero, Nat.reduceSub, Nat.reduceAdd, if_true, if_false, Bool.false_eq_true, Bool.true_eq_false, Bool.not_true, Bool.not_false, Option.bind_some, Option.map_some, Nat.zero_add, ite_true, ite_false, h0, h1, ix_refD hT, mod_ii T (show (0 : Int) < many by omega)]
    · refine (putL_ref (n := n) (ds := [.fz (ns.map D.int), .int p', .int q']) (y := .int (q' / many)) (k := 2) (j := 2) (S1 := T) (S2 := T) (S3 := T) ?_ ?_ rfl hT rfl).trans rfl
      · simp only [sSeq, sIf, sRet, sSet, sExpr, sAsg, sFl, sNil, sFor, dBin, dC, dCall, dCallF, aCons, aNil, dTst, dNot, dAnd, dOr, bAnd, bOr, bNot, dChain, dUn, dTup, dLst, dCell, dIf, iSeq, iRange1, iRange2, dVar, gN, gTupD, gsCons, gsNil, dSl, oNo, oSo, asI, dComp, wipeE, Out.bind_ok, Out.bind_exc, Out.bind_bad, lift_some, lift_none, asB_bl, add_ii, sub_ii, neg_i, lt_ii, le_ii, gt_ii, ge_ii, eq_ii, ne_ii, eq_ss, ne_ss, isnot_bb, is_bb, is_non, isnot_non, ix_tupD, ix_lstD, ix_fzD, at_lit0, at_lit1, at_lit2, at_lit3, len_fz, len_lst, len_tup, itemsOf, seqItems, List.map_cons, List.map_nil, List.length_cons, List.length_nil, List.getElem?_cons_zero, List.getElem?_cons_succ, List.set_cons_zero, List.set_cons_succ, List.cons_append, List.nil_append, List.replicate_succ, List.replicate_zero, Nat.reduceSub, Nat.reduceAdd, if_true, if_false, Bool.false_eq_true, Bool.true_eq_false, Bool.not_true, Bool.not_false, Option.bind_some, Option.map_some, Nat.zero_add, ite_true, ite_false, List.getElem?_set_ne (show (4 : Nat) ≠ 0 by decide), List.getElem?_set_ne (show (4 : Nat) ≠ 1 by decide), h0, h1, ix_refD hT, div_ii T (show (0 : Int) < many by omega) hm2]
      · simp only [sSeq, sIf, sRet, sSet, sExpr, sAsg, sFl, sNil, sFor, dBin, dC, dCall, dCallF, aCons, aNil, dTst, dNot, dAnd, dOr, bAnd, bOr, bNot, dChain, dUn, dTup, dLst, dCell, dIf, iSeq, iRange1, iRange2, dVar, gN, gTupD, gsCons, gsNil, dSl, oNo, oSo, asI, dComp, wipeE, Out.bind_ok, Out.bind_exc, Out.bind_bad, lift_some, lift_none, asB_bl, add_ii, sub_ii, neg_i, lt_ii, le_ii, gt_ii, ge_ii, eq_ii, ne_ii, eq_ss, ne_ss, isnot_bb, is_bb, is_non, isnot_non, ix_tupD, ix_lstD, ix_fzD, at_lit0, at_lit1, at_lit2, at_lit3, len_fz, len_lst, len_tup, itemsOf, seqItems, List.map_cons, List.map_nil, List.length_cons, List.length_nil, List.getElem?_cons_zero, List.getElem?_cons_succ, List.set_cons_zero, List.set_cons_succ, List.cons_append, List.nil_append, List.replicate_succ, List.replicate_zero, Nat.reduceSub, Nat.reduceAdd, if_true, if_false, Bool.false_eq_true, Bool.true_eq_false, Bool.not_true, Bool.not_false, Option.bind_some, Option.map_some, Nat.zero_add, ite_true, ite_false, List.getElem?_set_ne (show (4 : Nat) ≠ 0 by decide), h0]
    · simp only [sSeq, sIf, sRet, sSet, sExpr, sAsg, sFl, sNil, sFor, dBin, dC, dCall, dCallF, aCons, aNil, dTst, dNot, dAnd, dOr, bAnd, bOr, bNot, dChain, dUn, dTup, dLst, dCell, dIf, iSeq, iRange1, iRange2, dVar, gN, gTupD, gsCons, gsNil, dSl, oNo, oSo, asI, dComp, wipeE, Out.bind_ok, Out.bind_exc, Out.bind_bad, lift_some, lift_none, asB_bl, add_ii, sub_ii, neg_i, lt_ii, le_ii, gt_ii, ge_ii, eq_ii, ne_ii, eq_ss, ne_ss, isnot_bb, is_bb, is_non, isnot_non, ix_tupD, ix_lstD, ix_fzD, at_lit0, at_lit1, at_lit2, at_lit3, len_fz, len_lst, len_tup, itemsOf, seqItems, List.map_cons, List.map_nil, List.length_cons, List.length_nil, List.getElem?_cons_zero, List.getElem?_cons_succ, List.set_cons_zero, List.set_cons_succ, List.cons_append, List.nil_append, List.replicate_succ, List.replicate_zero, Nat.reduceSub, Nat.reduceAdd, if_true, if_false, Bool.false_eq_true, Bool.true_eq_false, Bool.not_true, Bool.not_false, Option.bind_some, Option.map_some, Nat.zero_add, ite_true, ite_false, List.getElem?_set_self hl]
  by_cases hc : q < many
  · -- a new number is drawn
    have body : ∃ env' q', 0 ≤ q' ∧ env'[0]? = some (some (.ref n)) ∧ env'[1]? = some (some (.int many)) ∧ 4 < env'.length ∧
        (sSeq (sSet 2 (dBin oIx (dVar 0) (dC (.int 1))))
  (sSeq (sSet 3 (dBin oMul (dC (.int 7)) (dVar 2)))
  (sSeq (sIf (dTst (dBin oLt (dVar 2) (dCall oLen (aCons (dBin oIx (dVar 0) (dC (.int 0))) aNil))))
  (sSet 3 (dBin oIx (dBin oIx (dVar 0) (dC (.int 0))) (dVar 2)))
  (sIf (dTst (dBin oGt (dCall oLen (aCons (dBin oIx (dVar 0) (dC (.int 0))) aNil)) (dC (.int 0))))
  (sSet 3 (dBin oAdd (dBin oMod (dBin oIx (dBin oIx (dVar 0) (dC (.int 0))) (dBin oMod (dBin oMul (dVar 2) (dC (.int 11))) (dCall oLen (aCons (dBin oIx (dVar 0) (dC (.int 0))) aNil)))) (dC (.int 999999937))) (dBin oMul (dVar 2) (dC (.int 3000000)))))
  sNil))
  (sSeq (sPutL (dVar 0) (dC (.int 1)) (dBin oAdd (dVar 2) (dC (.int 1))))
  (sPutL (dVar 0) (dC (.int 2)) (dCallF f__law_e_mixed (aCons (dVar 3) (aCons (dVar 2) aNil)))))))) [some (.ref n), some (.int many), none, none, none] S = .ok (.nx, env') (S.set n (deckC ns (p + 1) q')) := by
      -- the cell
      have cell : ∃ c : Int, (sIf (dTst (dBin oLt (dVar 2) (dCall oLen (aCons (dBin oIx (dVar 0) (dC (.int 0))) aNil))))
  (sSet 3 (dBin oIx (dBin oIx (dVar 0) (dC (.int 0))) (dVar 2)))
  (sIf (dTst (dBin oGt (dCall oLen (aCons (dBin oIx (dVar 0) (dC (.int 0))) aNil)) (dC (.int 0))))
  (sSet 3 (dBin oAdd (dBin oMod (dBin oIx (dBin oIx (dVar 0) (dC (.int 0))) (dBin oMod (dBin oMul (dVar 2) (dC (.int 11))) (dCall oLen (aCons (dBin oIx (dVar 0) (dC (.int 0))) aNil)))) (dC (.int 999999937))) (dBin oMul (dVar 2) (dC (.int 3000000)))))
  sNil)) [some (.ref n), some (.int many), some (.int p), some (.int (7 * p)), none] S = .ok (.nx, [some (.ref n), some (.int many), some (.int p), some (.int c), none]) S := by
        have hlen : (ns.map D.int).length = ns.length := List.length_map _
        by_cases h1 : p < ns.length
        · refine ⟨ns[p.toNat]'(by omega), ?_⟩
          have e : atI (ns.map D.int) p = some (.int (ns[p.toNat]'(by omega))) := at_nat hp (by rw [List.getElem?_map, List.getElem?_eq_getElem (by omega)]; rfl)
          simp only [sSeq, sIf, sRet, sSet, sExpr, sAsg, sFl, sNil, sFor, dBin, dC, dCall, dCallF, aCons, aNil, dTst, dNot, dAnd, dOr, bAnd, bOr, bNot, dChain, dUn, dTup, dLst, dCell, dIf, iSeq, iRange1, iRange2, dVar, gN, gTupD, gsCons, gsNil, dSl, oNo, oSo, asI, dComp, wipeE, Out.bind_ok, Out.bind_exc, Out.bind_bad, lift_some, lift_none, asB_bl, add_ii, sub_ii, neg_i, lt_ii, le_ii, gt_ii, ge_ii, eq_ii, ne_ii, eq_ss, ne_ss, isnot_bb, is_bb, is_non, isnot_non, ix_tupD, ix_lstD, ix_fzD, at_lit0, at_lit1, at_lit2, at_lit3, len_fz, len_lst, len_tup, itemsOf, seqItems, List.map_cons, List.map_nil, List.length_cons, List.length_nil, List.getElem?_cons_zero, List.getElem?_cons_succ, List.set_cons_zero, List.set_cons_succ, List.cons_append, List.nil_append, List.replicate_succ, List.replicate_zero, Nat.reduceSub, Nat.reduceAdd, if_true, if_false, Bool.false_eq_true, Bool.true_eq_false, Bool.not_true, Bool.not_false, Option.bind_some, Option.map_some, Nat.zero_add, ite_true, ite_false, ix_refD hS, hlen, decide_eq_true h1, e]
        · by_cases h2 : (0 : Int) < ns.length
          · have hb : 0 ≤ p * 11 % ns.length := Int.emod_nonneg _ (by omega)
            have hb2 : p * 11 % ns.length < ns.length := Int.emod_lt_of_pos _ h2
            refine ⟨ns[(p * 11 % ns.length).toNat]'(by omega) % 999999937 + p * 3000000, ?_⟩
            have e : atI (ns.map D.int) (p * 11 % ns.length) = some (.int (ns[(p * 11 % ns.length).toNat]'(by omega))) := at_nat hb (by rw [List.getElem?_map, List.getElem?_eq_getElem (by omega)]; rfl)
            simp only [sSeq, sIf, sRet, sSet, sExpr, sAsg, sFl, sNil, sFor, dBin, dC, dCall, dCallF, aCons, aNil, dTst, dNot, dAnd, dOr, bAnd, bOr, bNot, dChain, dUn, dTup, dLst, dCell, dIf, iSeq, iRange1, iRange2, dVar, gN, gTupD, gsCons, gsNil, dSl, oNo, oSo, asI, dComp, wipeE, Out.bind_ok, Out.bind_exc, Out.bind_bad, lift_some, lift_none, asB_bl, add_ii, sub_ii, neg_i, lt_ii, le_ii, gt_ii, ge_ii, eq_ii, ne_ii, eq_ss, ne_ss, isnot_bb, is_bb, is_non, isnot_non, ix_tupD, ix_lstD, ix_fzD, at_lit0, at_lit1, at_lit2, at_lit3, len_fz, len_lst, len_tup, itemsOf, seqItems, List.map_cons, List.map_nil, List.length_cons, List.length_nil, List.getElem?_cons_zero, List.getElem?_cons_succ, List.set_cons_zero, List.set_cons_succ, List.cons_append, List.nil_append, List.replicate_succ, List.replicate_zero, Nat.reduceSub, Nat.reduceAdd, if_true, if_false, Bool.false_eq_true, Bool.true_eq_false, Bool.not_true, Bool.not_false, Option.bind_some, Option.map_some, Nat.zero_add, ite_true, ite_false, ix_refD hS, hlen, decide_eq_false h1, decide_eq_true h2, mul_ii S (i := p) (j := 11) (.inr (by decide)), mod_ii S h2, e, mod_ii S m0, mul_ii S (i := p) (j := 3000000) (.inr (by decide))]
          · exact ⟨7 * p, by simp only [sSeq, sIf, sRet, sSet, sExpr, sAsg, sFl, sNil, sFor, dBin, dC, dCall, dCallF, aCons, aNil, dTst, dNot, dAnd, dOr, bAnd, bOr, bNot, dChain, dUn, dTup, dLst, dCell, dIf, iSeq, iRange1, iRange2, dVar, gN, gTupD, gsCons, gsNil, dSl, oNo, oSo, asI, dComp, wipeE, Out.bind_ok, Out.bind_exc, Out.bind_bad, lift_some, lift_none, asB_bl, add_ii, sub_ii, neg_i, lt_ii, le_ii, gt_ii, ge_ii, eq_ii, ne_ii, eq_ss, ne_ss, isnot_bb, is_bb, is_non, isnot_non, ix_tupD, ix_lstD, ix_fzD, at_lit0, at_lit1, at_lit2, at_lit3, len_fz, len_lst, len_tup, itemsOf, seqItems, List.map_cons, List.map_nil, List.length_cons, List.length_nil, List.getElem?_cons_zero, List.getElem?_cons_succ, List.set_cons_zero, List.set_cons_succ, List.cons_append, List.nil_append, List.replicate_succ, List.replicate_zero, Nat.reduceSub, Nat.reduceAdd, if_true, if_false, Bool.false_eq_true, Bool.true_eq_false, Bool.not_true, Bool.not_false, Option.bind_some, Option.map_some, Nat.zero_add, ite_true, ite_false, ix_refD hS, hlen, decide_eq_false h1, decide_eq_false h2]⟩
      obtain ⟨c, hcell⟩ := cell
      obtain ⟨x, hx, hmix⟩ := mixed_spec c p (S.set n (deckC ns (p + 1) q)) hp
      refine ⟨[some (.ref n), some (.int many), some (.int p), some (.int c), none], x, hx, rfl, rfl, by simp, ?_⟩
      refine (seq_nx (env' := [some (.ref n), some (.int many), some (.int p), none, none]) (S' := S) ?_).trans ?_
      · simp only [sSeq, sIf, sRet, sSet, sExpr, sAsg, sFl, sNil, sFor, dBin, dC, dCall, dCallF, aCons, aNil, dTst, dNot, dAnd, dOr, bAnd, bOr, bNot, dChain, dUn, dTup, dLst, dCell, dIf, iSeq, iRange1, iRange2, dVar, gN, gTupD, gsCons, gsNil, dSl, oNo, oSo, asI, dComp, wipeE, Out.bind_ok, Out.bind_exc, Out.bind_bad, lift_some, lift_none, asB_bl, add_ii, sub_ii, neg_i, lt_ii, le_ii, gt_ii, ge_ii, eq_ii, ne_ii, eq_ss, ne_ss, isnot_bb, is_bb, is_non, isnot_non, ix_tupD, ix_lstD, ix_fzD, at_lit0, at_lit1, at_lit2, at_lit3, len_fz, len_lst, len_tup, itemsOf, seqItems, List.map_cons, List.map_nil, List.length_cons, List.length_nil, List.getElem?_cons_zero, List.getElem?_cons_succ, List.set_cons_zero, List.set_cons_succ, List.cons_append, List.nil_append, List.replicate_succ, List.replicate_zero, Nat.reduceSub, Nat.reduceAdd, if_true, if_false, Bool.false_eq_true, Bool.true_eq_false, Bool.not_true, Bool.not_false, Option.bind_some, Option.map_some, Nat.zero_add, ite_true, ite_false, ix_refD hS]
      refine (seq_nx (env' := [some (.ref n), some (.int many), some (.int p), some (.int (7 * p)), none]) (S' := S) ?_).trans ?_
      · simp only [sSeq, sIf, sRet, sSet, sExpr, sAsg, sFl, sNil, sFor, dBin, dC, dCall, dCallF, aCons, aNil, dTst, dNot, dAnd, dOr, bAnd, bOr, bNot, dChain, dUn, dTup, dLst, dCell, dIf, iSeq, iRange1, iRange2, dVar, gN, gTupD, gsCons, gsNil, dSl, oNo, oSo, asI, dComp, wipeE, Out.bind_ok, Out.bind_exc, Out.bind_bad, lift_some, lift_none, asB_bl, add_ii, sub_ii, neg_i, lt_ii, le_ii, gt_ii, ge_ii, eq_ii, ne_ii, eq_ss, ne_ss, isnot_bb, is_bb, is_non, isnot_non, ix_tupD, ix_lstD, ix_fzD, at_lit0, at_lit1, at_lit2, at_lit3, len_fz, len_lst, len_tup, itemsOf, seqItems, List.map_cons, List.map_nil, List.length_cons, List.length_nil, List.getElem?_cons_zero, List.getElem?_cons_succ, List.set_cons_zero, List.set_cons_succ, List.cons_append, List.nil_append, List.replicate_succ, List.replicate_zero, Nat.reduceSub, Nat.reduceAdd, if_true, if_false, Bool.false_eq_true, Bool.true_eq_false, Bool.not_true, Bool.not_false, Option.bind_some, Option.map_some, Nat.zero_add, ite_true, ite_false, mul_ii S (i := 7) (j := p) (.inl (by decide))]
      refine (seq_nx hcell).trans ?_
      refine (seq_nx (env' := [some (.ref n), some (.int many), some (.int p), some (.int c), none]) (S' := S.set n (deckC ns (p + 1) q)) ?_).trans ?_
      · exact (putL_ref (n := n) (ds := [.fz (ns.map D.int), .int p, .int q]) (y := .int (p + 1)) (k := 1) (j := 1) (S1 := S) (S2 := S) (S3 := S) rfl rfl rfl hS rfl).trans rfl
      · refine (putL_ref (n := n) (ds := [.fz (ns.map D.int), .int (p + 1), .int q]) (y := .int x) (k := 2) (j := 2) (S1 := S.set n (deckC ns (p + 1) q)) (S2 := S.set n (deckC ns (p + 1) q)) (S3 := S.set n (deckC ns (p + 1) q)) ?_ rfl rfl (set_get hS) rfl).trans ?_
        · simp only [sSeq, sIf, sRet, sSet, sExpr, sAsg, sFl, sNil, sFor, dBin, dC, dCall, dCallF, aCons, aNil, dTst, dNot, dAnd, dOr, bAnd, bOr, bNot, dChain, dUn, dTup, dLst, dCell, dIf, iSeq, iRange1, iRange2, dVar, gN, gTupD, gsCons, gsNil, dSl, oNo, oSo, asI, dComp, wipeE, Out.bind_ok, Out.bind_exc, Out.bind_bad, lift_some, lift_none, asB_bl, add_ii, sub_ii, neg_i, lt_ii, le_ii, gt_ii, ge_ii, eq_ii, ne_ii, eq_ss, ne_ss, isnot_bb, is_bb, is_non, isnot_non, ix_tupD, ix_lstD, ix_fzD, at_lit0, at_lit1, at_lit2, at_lit3, len_fz, len_lst, len_tup, itemsOf, seqItems, List.map_cons, List.map_nil, List.length_cons, List.length_nil, List.getElem?_cons_zero, List.getElem?_cons_succ, List.set_cons_zero, List.set_cons_succ, List.cons_append, List.nil_append, List.replicate_succ, List.replicate_zero, Nat.reduceSub, Nat.reduceAdd, if_true, if_false, Bool.false_eq_true, Bool.true_eq_false, Bool.not_true, Bool.not_false, Option.bind_some, Option.map_some, Nat.zero_add, ite_true, ite_false, hmix]
        · rw [set_set]; rfl
    obtain ⟨env', q', hq', h0, h1, hl, hb⟩ := body
    obtain ⟨env2, hr⟩ := rest env' (S.set n (deckC ns (p + 1) q')) (p + 1) q' h0 h1 hl (set_get hS) hq'
    rw [set_set] at hr
    refine ⟨q' % many, p + 1, q' / many, Int.emod_nonneg _ (by omega), Int.emod_lt_of_pos _ (by omega), by omega, Int.ediv_nonneg hq' (by omega), fun0_rt (env := env2) ?_⟩
    unfold d__law_e_pick
    refine (seq_nx (env' := env') (S' := S.set n (deckC ns (p + 1) q')) ((if_t (S' := S) ?_).trans hb)).trans hr
    simp only [sSeq, sIf, sRet, sSet, sExpr, sAsg, sFl, sNil, sFor, dBin, dC, dCall, dCallF, aCons, aNil, dTst, dNot, dAnd, dOr, bAnd, bOr, bNot, dChain, dUn, dTup, dLst, dCell, dIf, iSeq, iRange1, iRange2, dVar, gN, gTupD, gsCons, gsNil, dSl, oNo, oSo, asI, dComp, wipeE, Out.bind_ok, Out.bind_exc, Out.bind_bad, lift_some, lift_none, asB_bl, add_ii, sub_ii, neg_i, lt_ii, le_ii, gt_ii, ge_ii, eq_ii, ne_ii, eq_ss, ne_ss, isnot_bb, is_bb, is_non, isnot_non, ix_tupD, ix_lstD, ix_fzD, at_lit0, at_lit1, at_lit2, at_lit3, len_fz, len_lst, len_tup, itemsOf, seqItems, List.map_cons, List.map_nil, List.length_cons, List.length_nil, List.getElem?_cons_zero, List.getElem?_cons_succ, List.set_cons_zero, List.set_cons_succ, List.cons_append, List.nil_append, List.replicate_succ, List.replicate_zero, Nat.reduceSub, Nat.reduceAdd, if_true, if_false, Bool.false_eq_true, Bool.true_eq_false, Bool.not_true, Bool.not_false, Option.bind_some, Option.map_some, Nat.zero_add, ite_true, ite_false, ix_refD hS, decide_eq_true hc]
  · obtain ⟨env2, hr⟩ := rest [some (.ref n), some (.int many), none, none, none] S p q rfl rfl (by simp) hS hq
    refine ⟨q % many, p, q / many, Int.emod_nonneg _ (by omega), Int.emod_lt_of_pos _ (by omega), hp, Int.ediv_nonneg hq (by omega), fun0_rt (env := env2) ?_⟩
    unfold d__law_e_pick
    refine (seq_nx (env' := [some (.ref n), some (.int many), none, none, none]) (S' := S) ((if_f (S' := S) ?_).trans rfl)).trans hr
    simp only [sSeq, sIf, sRet, sSet, sExpr, sAsg, sFl, sNil, sFor, dBin, dC, dCall, dCallF, aCons, aNil, dTst, dNot, dAnd, dOr, bAnd, bOr, bNot, dChain, dUn, dTup, dLst, dCell, dIf, iSeq, iRange1, iRange2, dVar, gN, gTupD, gsCons, gsNil, dSl, oNo, oSo, asI, dComp, wipeE, Out.bind_ok, Out.bind_exc, Out.bind_bad, lift_some, lift_none, asB_bl, add_ii, sub_ii, neg_i, lt_ii, le_ii, gt_ii, ge_ii, eq_ii, ne_ii, eq_ss, ne_ss, isnot_bb, is_bb, is_non, isnot_non, ix_tupD, ix_lstD, ix_fzD, at_lit0, at_lit1, at_lit2, at_lit3, len_fz, len_lst, len_tup, itemsOf, seqItems, List.map_cons, List.map_nil, List.length_cons, List.length_nil, List.getElem?_cons_zero, List.getElem?_cons_succ, List.set_cons_zero, List.set_cons_succ, List.cons_append, List.nil_append, List.replicate_succ, List.replicate_zero, Nat.reduceSub, Nat.reduceAdd, if_true, if_false, Bool.false_eq_true, Bool.true_eq_false, Bool.not_true, Bool.not_false, Option.bind_some, Option.map_some, Nat.zero_add, ite_true, ite_false, ix_refD hS, decide_eq_false hc]
theorem ints_of_all {P : Int → Prop} : ∀ ys : List D, (∀ y ∈ ys, ∃ c, P c ∧ y = .int c) → ∃ cs : List Int, ys = cs.map D.int ∧ ∀ c ∈ cs, P c
  | [], _ => ⟨[], rfl, fun _ h => by cases h⟩
  | y :: ys, h => by
    obtain ⟨c, hc, e⟩ := h y List.mem_cons_self
    obtain ⟨cs, e2, h2⟩ := ints_of_all ys fun y hy => h y (List.mem_cons_of_mem _ hy)
    refine ⟨c :: cs, by rw [e, e2]; rfl, fun z hz => ?_⟩
    rcases List.mem_cons.mp hz with q | q
    · rw [q]; exact hc
    · exact h2 z q
theorem rng1_int {j : Int} (h0 : 0 ≤ j) (h : j < 2 ^ 62) : rng1 [.int j] = some (rngL 0 j.toNat) := by
  unfold rng1
  dsimp only
  rw [if_pos]
  unfold in62
  rw [Bool.and_eq_true, decide_eq_true_eq, decide_eq_true_eq]
  omega
/-- a deck at n; what stays but it -/
def DK (ns : List Int) (n : Nat) (S : Sto) : Prop := ∃ p q, 0 ≤ p ∧ 0 ≤ q ∧ S[n]? = some (deckC ns p q)
def Kp (n : Nat) (S S' : Sto) : Prop := ∀ j c, j ≠ n → S[j]? = some c → S'[j]? = some c
theorem Kp.refl (n : Nat) (S : Sto) : Kp n S S := fun _ _ _ h => h
theorem Kp.trans {n : Nat} {S S1 S2 : Sto} (h : Kp n S S1) (k : Kp n S1 S2) : Kp n S S2 := fun j c hj e => k j c hj (h j c hj e)
theorem Kp.app (n : Nat) (S : Sto) (c : Cell) : Kp n S (S ++ [c]) := fun j d _ e => by
  rw [List.getElem?_append_left (List.getElem?_eq_some_iff.mp e).1]
  exact e
theorem DK.app {ns : List Int} {n : Nat} {S : Sto} (h : DK ns n S) (c : Cell) : DK ns n (S ++ [c]) := by
  obtain ⟨p, q, h1, h2, h3⟩ := h
  exact ⟨p, q, h1, h2, by rw [List.getElem?_append_left (List.getElem?_eq_some_iff.mp h3).1]; exact h3⟩
theorem app_at (S : Sto) (c : Cell) : (S ++ [c])[S.length]? = some c := by
  rw [List.getElem?_append_right (Nat.le_refl _), Nat.sub_self]
  rfl
theorem DK.set {ns : List Int} {n m : Nat} {S : Sto} (h : DK ns n S) (c : Cell) (hm : m ≠ n) : DK ns n (S.set m c) := by
  obtain ⟨p, q, h1, h2, h3⟩ := h
  exact ⟨p, q, h1, h2, by rw [List.getElem?_set_ne hm]; exact h3⟩
theorem pick_wp {ns : List Int} {n : Nat} {S : Sto} {many : Int} {P : D → Sto → Prop} (h : DK ns n S) (hm : 1 ≤ many) (hm2 : many < 2 ^ 80) (k : ∀ v S', 0 ≤ v → v < many → DK ns n S' → Kp n S S' → S'.length = S.length → P (.int v) S') : Wp (f__law_e_pick [.ref n, .int many] S) P := by
  obtain ⟨p, q, hp, hq, hS⟩ := h
  obtain ⟨v, p', q', h1, h2, h3, h4, e⟩ := pick_spec ns n S p q many hS hp hq hm hm2
  refine Wp.of e (k v _ h1 h2 ⟨p', q', h3, h4, set_get hS⟩ (fun j c hj e2 => ?_) (List.length_set ..))
  rw [List.getElem?_set_ne (Ne.symm hj)]
  exact e2
/-- the end of the deck ends the loop -/
theorem brk_deck {ns xs : List Int} {env : Ev} {S : Sto} {g : DS} {PF : Fl × Ev → Sto → Prop} {j : Nat} {i : Int} (h0 : env[0]? = some (some (.fz (xs.map D.int)))) (h1 : env[1]? = some (some (.ref 0))) (h2 : env[j]? = some (some (.int i))) (hS : DK ns 0 S) (hb : PF (.bk, env) S) (hg : Wp (g env S) PF) :
    Wp (sSeq (sIf (bAnd (dTst (dBin oGt (dVar j) (dC (.int 1)))) (dTst (dBin oGe (dBin oIx (dVar 1) (dC (.int 1))) (dCall oLen (aCons (dVar 0) aNil))))) (sFl .bk) sNil) g env S) PF := by
  obtain ⟨p, q, hp, hq, hS⟩ := hS
  have i1 : oIx S (.ref 0) (.int 1) = some (.int p) := by rw [ix_refD hS]; rfl
  simp only [w_Seq, w_If, w_bAnd, w_Tst, w_Bin, w_Var, w_C, k_Bin1, k_Bin2, k_B, k_Var, gt_ii, wps, h0, h1, h2, asB_bl]
  refine k_bAndc (fun c1 => ?_) fun c1 => ?_
  · simp only [w_Tst, w_Bin, w_Var, w_C, k_Bin1, k_Bin2, k_B, k_Var, ge_ii, wps, h0, h1, w_Call, w_aCons, w_aNil, k_Cons1, k_Cons2, k_Call, len_fz, i1]
    refine k_Ifd (fun c2 => ?_) fun c2 => ?_
    · simp only [w_Fl, k_Seqb]; exact hb
    · simp only [w_Nil, k_Seqn]; exact hg
  · simp only [k_Iff, w_Nil, k_Seqn]; exact hg
/-- .. the deck and what it leaves -/
structure Dr (ns : List Int) (m : Nat) (S S' : Sto) : Prop where
  dk : DK ns m S'
  kp : Kp m S S'
  len : S.length ≤ S'.length
theorem Dr.trans {ns : List Int} {m : Nat} {S S1 S2 : Sto} (h : Dr ns m S S1) (k : Dr ns m S1 S2) : Dr ns m S S2 := ⟨k.dk, h.kp.trans k.kp, Nat.le_trans h.len k.len⟩
theorem Dr.refl {ns : List Int} {m : Nat} {S : Sto} (h : DK ns m S) : Dr ns m S S := ⟨h, Kp.refl _ _, Nat.le_refl _⟩
theorem pick_dr {ns : List Int} {m : Nat} {S : Sto} {many : Int} {P : D → Sto → Prop} (h : DK ns m S) (hm : 1 ≤ many) (hm2 : many < 2 ^ 80) (k : ∀ v S', 0 ≤ v → v < many → Dr ns m S S' → P (.int v) S') : Wp (f__law_e_pick [.ref m, .int many] S) P :=
  pick_wp h hm hm2 fun v S' h1 h2 h3 h4 h5 => k v S' h1 h2 ⟨h3, h4, by omega⟩
theorem DK.lt {ns : List Int} {m : Nat} {S : Sto} (h : DK ns m S) : m < S.length := by
  obtain ⟨p, q, _, _, e⟩ := h
  exact (List.getElem?_eq_some_iff.mp e).1
theorem Dr.app {ns : List Int} {m : Nat} {S S' : Sto} (h : Dr ns m S S') (c : Cell) : Dr ns m S (S' ++ [c]) := ⟨h.dk.app c, h.kp.trans (Kp.app _ _ _), by rw [List.length_append]; exact Nat.le_trans h.len (Nat.le_add_right _ _)⟩
theorem Dr.put {ns : List Int} {m q : Nat} {S S' : Sto} (h : Dr ns m S S') (c : Cell) (hm : q ≠ m) (hq : S.length ≤ q) : Dr ns m S (S'.set q c) := by
  refine ⟨h.dk.set c hm, fun j d hj e => ?_, by rw [List.length_set]; exact h.len⟩
  have hl := (List.getElem?_eq_some_iff.mp e).1
  rw [List.getElem?_set_ne (by omega)]
  exact h.kp j d hj e
theorem ltL_ints (k : Nat) : ∀ ns : List Int, ltL k (ns.map D.int) = true
  | [] => rfl
  | n :: ns => by
    show (true && ltL k (ns.map D.int)) = true
    rw [ltL_ints k ns]
    rfl
theorem Dr.frz {ns : List Int} {m : Nat} {S S' : Sto} (hS : m < S.length) (h : Dr ns m S S') : ∀ j c, j < S.length → S'[j]? = some c → S[j]? = some c ∨ ltC S.length c = true := fun j c hj e => by
  by_cases z : j = m
  · subst z
    obtain ⟨p, q, _, _, e2⟩ := h.dk
    rw [e2] at e
    cases e
    refine .inr ?_
    show (ltL S.length (ns.map D.int) && _) = true
    rw [ltL_ints]
    rfl
  · have e2 := h.kp j _ z (List.getElem?_eq_getElem hj)
    rw [e2] at e
    exact .inl (by rw [List.getElem?_eq_getElem hj]; exact e)
theorem Dr.cut {ns : List Int} {m : Nat} {S S' : Sto} (hS : m < S.length) (h : Dr ns m S S') : Dr ns m S (S'.take S.length) := by
  obtain ⟨p, q, h1, h2, h3⟩ := h.dk
  have hl := h.len
  refine ⟨⟨p, q, h1, h2, ?_⟩, fun j c hj e => ?_, by rw [List.length_take]; omega⟩
  · rw [List.getElem?_take, if_pos hS]; exact h3
  · have hj2 := (List.getElem?_eq_some_iff.mp e).1
    rw [List.getElem?_take, if_pos hj2]
    exact h.kp j c hj e
theorem frz_lst {S S' : Sto} {q : Nat} {ds : List D} (hq : S.length ≤ q) (h : S'[q]? = some (.lst ds)) (hl : ltL 0 ds = true) : mapD (rsv S.length S' 64) (.ref q) = some (.lst ds) := by
  show rsv S.length S' 64 q = _
  unfold rsv
  rw [if_neg (by omega), h]
  dsimp only
  rw [mapL_id ds hl]
  rfl
theorem rng_succ (lo : Int) (k : Nat) : rngL lo (k + 1) = .int lo :: rngL (lo + 1) k := by
  unfold rngL
  rw [List.range_succ_eq_map, List.map_cons, List.map_map]
  congr 1
  · rw [Int.natCast_zero, Int.add_zero]
  · refine List.map_congr_left fun a _ => ?_
    show D.int (lo + ((a + 1 : Nat) : Int)) = D.int (lo + 1 + (a : Int))
    rw [show lo + ((a + 1 : Nat) : Int) = lo + 1 + (a : Int) by omega]
theorem ints_each {Q : Int → Prop} {xs ys : List D} (a : All2 (fun (_ : D) (y : D) => ∃ c, Q c ∧ y = D.int c) xs ys) : ∃ cs : List Int, ys = cs.map D.int ∧ cs.length = xs.length ∧ ∀ c ∈ cs, Q c := by
  obtain ⟨cs, e, h⟩ := ints_of_all (P := Q) ys (a.right (p := fun y : D => ∃ c, Q c ∧ y = D.int c) fun _ _ h => h)
  refine ⟨cs, e, ?_, h⟩
  rw [a.length, e, List.length_map]
theorem add_LL {S : Sto} {x y : D} {a b : List D} (h1 : lstOf S x = some a) (h2 : lstOf S y = some b) (hl : a.length + b.length ≤ sizeLine) : oAdd S x y = some (.lst (a ++ b)) := by
  refine (orO_none ?_).trans (orO_some ?_)
  · cases x <;> first | rfl | cases h1
  · unfold oAddL
    rw [h1, h2]
    dsimp only
    rw [if_pos hl]

def capN (m : Int) : Int := if m ≤ 3 then 4 else if m = 4 then 2 else 1
/-- a drawn meeting -/
structure MeetOk (great : Bool) (k : Int) (cs : List Int) : Prop where
  k1 : 1 ≤ k
  k5 : k ≤ 5
  l1 : 1 ≤ cs.length
  l5 : cs.length ≤ 5
  c0 : ∀ z ∈ cs, 0 ≤ z ∧ z ≤ if great then 4 else capN cs.length
theorem meet_wp {ns : List Int} {m : Nat} {S : Sto} {great : Bool} {P : D → Sto → Prop} (h : DK ns m S) (kk : ∀ k cs S', MeetOk great k cs → Dr ns m S S' → P (.tup [.int k, .tup (cs.map D.int)]) S') : Wp (f__law_e_meeting [.ref m, .bl great] S) P := by
  unfold f__law_e_meeting d__law_e_meeting
  simp only [wps, w_C, w_Var, k_Var, w_Bin, k_Bin1, k_Bin2, w_Tst, k_B, w_Chain, k_Ch1, k_Ch2, k_Ch3t, k_Ch3f, k_Ch4, w_And, w_Or, w_Not, k_Andt, k_Andf, k_Ort, k_Orf, k_Not, w_bAnd, w_bOr, w_bNot, w_bYes, k_bAndt, k_bAndf, k_bOrt, k_bOrf, k_bNot, w_dIf, k_dIft, k_dIff, w_aNil, w_aCons, k_Cons1, k_Cons2, w_Tup, w_Lst, w_Cell, k_Tup, k_Lst, k_Cell, w_Call, k_Call, w_CallF, k_CallF, w_CallN, k_CallN, k_New, k_AddN1, w_Un, k_Un, w_Sl, k_Sl1, k_Sl2, k_Sl3, w_No, w_So, k_So, w_iSeq, k_Items, w_Range1, w_Range2, k_Rng1, k_Rng2, w_iEnum, k_Enum, w_Comp, k_Comp, k_AsL, w_TupRg, w_LstRg, k_TupRg, k_LstRg, w_Rev, k_Rev, rev_tup, rev_lst, k_Di1, k_PT1, k_PT2, w_Nil, w_Nop, w_Fl, w_Seq, k_Seqn, k_Seqr, k_Seqb, k_Seqc, w_Expr, k_Drop, w_Ret, k_Ret, w_Set, k_Set, w_Asg, k_Asg1, k_Nx, w_If, k_Ift, k_Iff, w_For, k_For, k_Put1, k_Put2, w_Fun, w_Fun0, k_Funn, k_Funr, w_newK, w_newT, asB_bl, gN, gTupD, gsCons, gsNil, wipeE, itemsOf, seqItems, len_str, add_ii, sub_ii, neg_i, lt_ii, le_ii, gt_ii, ge_ii, eq_ii, ne_ii, eq_ss, ne_ss, isnot_bb, is_bb, is_non, isnot_non, isNonD, ix_tupD, ix_lstD, ix_fzD, at_lit0, at_lit1, at_lit2, at_lit3, len_fz, len_lst, len_tup, List.map_cons, List.map_nil, List.length_cons, List.length_nil, List.getElem?_cons_zero, List.getElem?_cons_succ, List.set_cons_zero, List.set_cons_succ, List.cons_append, List.nil_append, List.replicate_succ, List.replicate_zero, Nat.reduceSub, Nat.reduceAdd, Nat.reduceLeDiff, if_true, if_false, Bool.false_eq_true, Bool.true_eq_false, Bool.not_true, Bool.not_false, Option.bind_some, Option.map_some, Nat.zero_add, ite_true, ite_false, Int.cast_ofNat_Int, Int.natCast_zero, Int.natCast_one, Int.reduceLT, Int.reduceLE, Int.reduceEq, Int.reduceAdd, Int.reduceSub, Int.reduceNeg, decide_true, decide_false, true_and, and_true, le_size, add_ll, add_tt, tuple_lst, tuple_tup, list_tup, list_lst, sl_tup, sl_lst, ii_non_int, ii_non_bool, ii_non_str, ii_non_tuple, ii_non_list, ii_non_dict, ii_bl_int, ii_bl_bool, ii_bl_str, ii_bl_tuple, ii_bl_list, ii_bl_dict, ii_int_int, ii_int_bool, ii_int_str, ii_int_tuple, ii_int_list, ii_int_dict, ii_str_int, ii_str_bool, ii_str_str, ii_str_tuple, ii_str_list, ii_str_dict, ii_tup_int, ii_tup_bool, ii_tup_str, ii_tup_tuple, ii_tup_list, ii_tup_dict, ii_lst_int, ii_lst_bool, ii_lst_str, ii_lst_tuple, ii_lst_list, ii_lst_dict, ii_fz_int, ii_fz_bool, ii_fz_str, ii_fz_tuple, ii_fz_list, ii_fz_dict]
  refine pick_dr h (by decide) (by decide) fun v S1 v1 v2 r1 => ?_
  have rest : ∀ most : Int, most = (if great then 4 else capN (1 + v)) → Wp
      (sSeq (sSet 4 (dComp (iRange1 (aCons (dVar 2) aNil)) (gN 5) [5] bYes (dCallF f__law_e_pick (aCons (dVar 0) (aCons (dBin oAdd (dVar 3) (dC (.int 1))) aNil)))))
      (sSeq (sIf (dTst (dBin oEq (dCallF f__law_e_pick (aCons (dVar 0) (aCons (dC (.int 3)) aNil))) (dC (.int 0))))
      (sSet 4 (dComp (iRange1 (aCons (dVar 2) aNil)) (gN 5) [5] bYes (dBin oIx (dVar 4) (dC (.int 0)))))
      sNil)
      (sRet (dTup (aCons (dBin oAdd (dC (.int 1)) (dCallF f__law_e_pick (aCons (dVar 0) (aCons (dC (.int 5)) aNil)))) (aCons (dCall oTuple (aCons (dVar 4) aNil)) aNil))))) [some (.ref m), some (.bl great), some (.int (1 + v)), some (.int most), none, none] S1) (kFun P) := by
    intro most hmost
    have hm : 0 ≤ most ∧ most ≤ 4 := by
      rw [hmost]
      unfold capN
      cases great <;> simp only [if_true, if_false, Bool.false_eq_true] <;> (try split) <;> (try split) <;> omega
    simp only [wps, w_C, w_Var, k_Var, w_Bin, k_Bin1, k_Bin2, w_Tst, k_B, w_Chain, k_Ch1, k_Ch2, k_Ch3t, k_Ch3f, k_Ch4, w_And, w_Or, w_Not, k_Andt, k_Andf, k_Ort, k_Orf, k_Not, w_bAnd, w_bOr, w_bNot, w_bYes, k_bAndt, k_bAndf, k_bOrt, k_bOrf, k_bNot, w_dIf, k_dIft, k_dIff, w_aNil, w_aCons, k_Cons1, k_Cons2, w_Tup, w_Lst, w_Cell, k_Tup, k_Lst, k_Cell, w_Call, k_Call, w_CallF, k_CallF, w_CallN, k_CallN, k_New, k_AddN1, w_Un, k_Un, w_Sl, k_Sl1, k_Sl2, k_Sl3, w_No, w_So, k_So, w_iSeq, k_Items, w_Range1, w_Range2, k_Rng1, k_Rng2, w_iEnum, k_Enum, w_Comp, k_Comp, k_AsL, w_TupRg, w_LstRg, k_TupRg, k_LstRg, w_Rev, k_Rev, rev_tup, rev_lst, k_Di1, k_PT1, k_PT2, w_Nil, w_Nop, w_Fl, w_Seq, k_Seqn, k_Seqr, k_Seqb, k_Seqc, w_Expr, k_Drop, w_Ret, k_Ret, w_Set, k_Set, w_Asg, k_Asg1, k_Nx, w_If, k_Ift, k_Iff, w_For, k_For, k_Put1, k_Put2, w_Fun, w_Fun0, k_Funn, k_Funr, w_newK, w_newT, asB_bl, gN, gTupD, gsCons, gsNil, wipeE, itemsOf, seqItems, len_str, add_ii, sub_ii, neg_i, lt_ii, le_ii, gt_ii, ge_ii, eq_ii, ne_ii, eq_ss, ne_ss, isnot_bb, is_bb, is_non, isnot_non, isNonD, ix_tupD, ix_lstD, ix_fzD, at_lit0, at_lit1, at_lit2, at_lit3, len_fz, len_lst, len_tup, List.map_cons, List.map_nil, List.length_cons, List.length_nil, List.getElem?_cons_zero, List.getElem?_cons_succ, List.set_cons_zero, List.set_cons_succ, List.cons_append, List.nil_append, List.replicate_succ, List.replicate_zero, Nat.reduceSub, Nat.reduceAdd, Nat.reduceLeDiff, if_true, if_false, Bool.false_eq_true, Bool.true_eq_false, Bool.not_true, Bool.not_false, Option.bind_some, Option.map_some, Nat.zero_add, ite_true, ite_false, Int.cast_ofNat_Int, Int.natCast_zero, Int.natCast_one, Int.reduceLT, Int.reduceLE, Int.reduceEq, Int.reduceAdd, Int.reduceSub, Int.reduceNeg, decide_true, decide_false, true_and, and_true, le_size, add_ll, add_tt, tuple_lst, tuple_tup, list_tup, list_lst, sl_tup, sl_lst, ii_non_int, ii_non_bool, ii_non_str, ii_non_tuple, ii_non_list, ii_non_dict, ii_bl_int, ii_bl_bool, ii_bl_str, ii_bl_tuple, ii_bl_list, ii_bl_dict, ii_int_int, ii_int_bool, ii_int_str, ii_int_tuple, ii_int_list, ii_int_dict, ii_str_int, ii_str_bool, ii_str_str, ii_str_tuple, ii_str_list, ii_str_dict, ii_tup_int, ii_tup_bool, ii_tup_str, ii_tup_tuple, ii_tup_list, ii_tup_dict, ii_lst_int, ii_lst_bool, ii_lst_str, ii_lst_tuple, ii_lst_list, ii_lst_dict, ii_fz_int, ii_fz_bool, ii_fz_str, ii_fz_tuple, ii_fz_list, ii_fz_dict, rng1_int (show 0 ≤ 1 + v by omega) (show 1 + v < 2 ^ 62 by omega)]
    refine compGo_each (Dr ns m S1) (fun _ y => ∃ c : Int, (0 ≤ c ∧ c ≤ most) ∧ y = .int c) (Dr.refl r1.dk) (by rw [rng_len, sizeLine_eq]; omega) (fun d hd T hT => ⟨_, rfl, ?_⟩) fun ys S2 a r2 => ?_
    · simp only [wps, w_C, w_Var, k_Var, w_Bin, k_Bin1, k_Bin2, w_Tst, k_B, w_Chain, k_Ch1, k_Ch2, k_Ch3t, k_Ch3f, k_Ch4, w_And, w_Or, w_Not, k_Andt, k_Andf, k_Ort, k_Orf, k_Not, w_bAnd, w_bOr, w_bNot, w_bYes, k_bAndt, k_bAndf, k_bOrt, k_bOrf, k_bNot, w_dIf, k_dIft, k_dIff, w_aNil, w_aCons, k_Cons1, k_Cons2, w_Tup, w_Lst, w_Cell, k_Tup, k_Lst, k_Cell, w_Call, k_Call, w_CallF, k_CallF, w_CallN, k_CallN, k_New, k_AddN1, w_Un, k_Un, w_Sl, k_Sl1, k_Sl2, k_Sl3, w_No, w_So, k_So, w_iSeq, k_Items, w_Range1, w_Range2, k_Rng1, k_Rng2, w_iEnum, k_Enum, w_Comp, k_Comp, k_AsL, w_TupRg, w_LstRg, k_TupRg, k_LstRg, w_Rev, k_Rev, rev_tup, rev_lst, k_Di1, k_PT1, k_PT2, w_Nil, w_Nop, w_Fl, w_Seq, k_Seqn, k_Seqr, k_Seqb, k_Seqc, w_Expr, k_Drop, w_Ret, k_Ret, w_Set, k_Set, w_Asg, k_Asg1, k_Nx, w_If, k_Ift, k_Iff, w_For, k_For, k_Put1, k_Put2, w_Fun, w_Fun0, k_Funn, k_Funr, w_newK, w_newT, asB_bl, gN, gTupD, gsCons, gsNil, wipeE, itemsOf, seqItems, len_str, add_ii, sub_ii, neg_i, lt_ii, le_ii, gt_ii, ge_ii, eq_ii, ne_ii, eq_ss, ne_ss, isnot_bb, is_bb, is_non, isnot_non, isNonD, ix_tupD, ix_lstD, ix_fzD, at_lit0, at_lit1, at_lit2, at_lit3, len_fz, len_lst, len_tup, List.map_cons, List.map_nil, List.length_cons, List.length_nil, List.getElem?_cons_zero, List.getElem?_cons_succ, List.set_cons_zero, List.set_cons_succ, List.cons_append, List.nil_append, List.replicate_succ, List.replicate_zero, Nat.reduceSub, Nat.reduceAdd, Nat.reduceLeDiff, if_true, if_false, Bool.false_eq_true, Bool.true_eq_false, Bool.not_true, Bool.not_false, Option.bind_some, Option.map_some, Nat.zero_add, ite_true, ite_false, Int.cast_ofNat_Int, Int.natCast_zero, Int.natCast_one, Int.reduceLT, Int.reduceLE, Int.reduceEq, Int.reduceAdd, Int.reduceSub, Int.reduceNeg, decide_true, decide_false, true_and, and_true, le_size, add_ll, add_tt, tuple_lst, tuple_tup, list_tup, list_lst, sl_tup, sl_lst, ii_non_int, ii_non_bool, ii_non_str, ii_non_tuple, ii_non_list, ii_non_dict, ii_bl_int, ii_bl_bool, ii_bl_str, ii_bl_tuple, ii_bl_list, ii_bl_dict, ii_int_int, ii_int_bool, ii_int_str, ii_int_tuple, ii_int_list, ii_int_dict, ii_str_int, ii_str_bool, ii_str_str, ii_str_tuple, ii_str_list, ii_str_dict, ii_tup_int, ii_tup_bool, ii_tup_str, ii_tup_tuple, ii_tup_list, ii_tup_dict, ii_lst_int, ii_lst_bool, ii_lst_str, ii_lst_tuple, ii_lst_list, ii_lst_dict, ii_fz_int, ii_fz_bool, ii_fz_str, ii_fz_tuple, ii_fz_list, ii_fz_dict]
      exact pick_dr hT.dk (by omega) (by omega) fun c T2 c1 c2 r => ⟨hT.trans r, c, ⟨c1, by omega⟩, rfl⟩
    obtain ⟨cs, ecs, hcl, hcs⟩ := ints_each a
    subst ecs
    rw [rng_len] at hcl
    simp only [wps, w_C, w_Var, k_Var, w_Bin, k_Bin1, k_Bin2, w_Tst, k_B, w_Chain, k_Ch1, k_Ch2, k_Ch3t, k_Ch3f, k_Ch4, w_And, w_Or, w_Not, k_Andt, k_Andf, k_Ort, k_Orf, k_Not, w_bAnd, w_bOr, w_bNot, w_bYes, k_bAndt, k_bAndf, k_bOrt, k_bOrf, k_bNot, w_dIf, k_dIft, k_dIff, w_aNil, w_aCons, k_Cons1, k_Cons2, w_Tup, w_Lst, w_Cell, k_Tup, k_Lst, k_Cell, w_Call, k_Call, w_CallF, k_CallF, w_CallN, k_CallN, k_New, k_AddN1, w_Un, k_Un, w_Sl, k_Sl1, k_Sl2, k_Sl3, w_No, w_So, k_So, w_iSeq, k_Items, w_Range1, w_Range2, k_Rng1, k_Rng2, w_iEnum, k_Enum, w_Comp, k_Comp, k_AsL, w_TupRg, w_LstRg, k_TupRg, k_LstRg, w_Rev, k_Rev, rev_tup, rev_lst, k_Di1, k_PT1, k_PT2, w_Nil, w_Nop, w_Fl, w_Seq, k_Seqn, k_Seqr, k_Seqb, k_Seqc, w_Expr, k_Drop, w_Ret, k_Ret, w_Set, k_Set, w_Asg, k_Asg1, k_Nx, w_If, k_Ift, k_Iff, w_For, k_For, k_Put1, k_Put2, w_Fun, w_Fun0, k_Funn, k_Funr, w_newK, w_newT, asB_bl, gN, gTupD, gsCons, gsNil, wipeE, itemsOf, seqItems, len_str, add_ii, sub_ii, neg_i, lt_ii, le_ii, gt_ii, ge_ii, eq_ii, ne_ii, eq_ss, ne_ss, isnot_bb, is_bb, is_non, isnot_non, isNonD, ix_tupD, ix_lstD, ix_fzD, at_lit0, at_lit1, at_lit2, at_lit3, len_fz, len_lst, len_tup, List.map_cons, List.map_nil, List.length_cons, List.length_nil, List.getElem?_cons_zero, List.getElem?_cons_succ, List.set_cons_zero, List.set_cons_succ, List.cons_append, List.nil_append, List.replicate_succ, List.replicate_zero, Nat.reduceSub, Nat.reduceAdd, Nat.reduceLeDiff, if_true, if_false, Bool.false_eq_true, Bool.true_eq_false, Bool.not_true, Bool.not_false, Option.bind_some, Option.map_some, Nat.zero_add, ite_true, ite_false, Int.cast_ofNat_Int, Int.natCast_zero, Int.natCast_one, Int.reduceLT, Int.reduceLE, Int.reduceEq, Int.reduceAdd, Int.reduceSub, Int.reduceNeg, decide_true, decide_false, true_and, and_true, le_size, add_ll, add_tt, tuple_lst, tuple_tup, list_tup, list_lst, sl_tup, sl_lst, ii_non_int, ii_non_bool, ii_non_str, ii_non_tuple, ii_non_list, ii_non_dict, ii_bl_int, ii_bl_bool, ii_bl_str, ii_bl_tuple, ii_bl_list, ii_bl_dict, ii_int_int, ii_int_bool, ii_int_str, ii_int_tuple, ii_int_list, ii_int_dict, ii_str_int, ii_str_bool, ii_str_str, ii_str_tuple, ii_str_list, ii_str_dict, ii_tup_int, ii_tup_bool, ii_tup_str, ii_tup_tuple, ii_tup_list, ii_tup_dict, ii_lst_int, ii_lst_bool, ii_lst_str, ii_lst_tuple, ii_lst_list, ii_lst_dict, ii_fz_int, ii_fz_bool, ii_fz_str, ii_fz_tuple, ii_fz_list, ii_fz_dict]
    refine pick_dr r2.dk (by decide) (by decide) fun w S3 w1 w2 r3 => ?_
    have fin : ∀ cs : List Int, cs.length = (1 + v).toNat → (∀ c ∈ cs, 0 ≤ c ∧ c ≤ most) → Wp (sRet (dTup (aCons (dBin oAdd (dC (.int 1)) (dCallF f__law_e_pick (aCons (dVar 0) (aCons (dC (.int 5)) aNil)))) (aCons (dCall oTuple (aCons (dVar 4) aNil)) aNil)))
        [some (.ref m), some (.bl great), some (.int (1 + v)), some (.int most), some (.lst (cs.map D.int)), none] S3) (kFun P) := by
      intro cs hl hc
      simp only [wps, w_C, w_Var, k_Var, w_Bin, k_Bin1, k_Bin2, w_Tst, k_B, w_Chain, k_Ch1, k_Ch2, k_Ch3t, k_Ch3f, k_Ch4, w_And, w_Or, w_Not, k_Andt, k_Andf, k_Ort, k_Orf, k_Not, w_bAnd, w_bOr, w_bNot, w_bYes, k_bAndt, k_bAndf, k_bOrt, k_bOrf, k_bNot, w_dIf, k_dIft, k_dIff, w_aNil, w_aCons, k_Cons1, k_Cons2, w_Tup, w_Lst, w_Cell, k_Tup, k_Lst, k_Cell, w_Call, k_Call, w_CallF, k_CallF, w_CallN, k_CallN, k_New, k_AddN1, w_Un, k_Un, w_Sl, k_Sl1, k_Sl2, k_Sl3, w_No, w_So, k_So, w_iSeq, k_Items, w_Range1, w_Range2, k_Rng1, k_Rng2, w_iEnum, k_Enum, w_Comp, k_Comp, k_AsL, w_TupRg, w_LstRg, k_TupRg, k_LstRg, w_Rev, k_Rev, rev_tup, rev_lst, k_Di1, k_PT1, k_PT2, w_Nil, w_Nop, w_Fl, w_Seq, k_Seqn, k_Seqr, k_Seqb, k_Seqc, w_Expr, k_Drop, w_Ret, k_Ret, w_Set, k_Set, w_Asg, k_Asg1, k_Nx, w_If, k_Ift, k_Iff, w_For, k_For, k_Put1, k_Put2, w_Fun, w_Fun0, k_Funn, k_Funr, w_newK, w_newT, asB_bl, gN, gTupD, gsCons, gsNil, wipeE, itemsOf, seqItems, len_str, add_ii, sub_ii, neg_i, lt_ii, le_ii, gt_ii, ge_ii, eq_ii, ne_ii, eq_ss, ne_ss, isnot_bb, is_bb, is_non, isnot_non, isNonD, ix_tupD, ix_lstD, ix_fzD, at_lit0, at_lit1, at_lit2, at_lit3, len_fz, len_lst, len_tup, List.map_cons, List.map_nil, List.length_cons, List.length_nil, List.getElem?_cons_zero, List.getElem?_cons_succ, List.set_cons_zero, List.set_cons_succ, List.cons_append, List.nil_append, List.replicate_succ, List.replicate_zero, Nat.reduceSub, Nat.reduceAdd, Nat.reduceLeDiff, if_true, if_false, Bool.false_eq_true, Bool.true_eq_false, Bool.not_true, Bool.not_false, Option.bind_some, Option.map_some, Nat.zero_add, ite_true, ite_false, Int.cast_ofNat_Int, Int.natCast_zero, Int.natCast_one, Int.reduceLT, Int.reduceLE, Int.reduceEq, Int.reduceAdd, Int.reduceSub, Int.reduceNeg, decide_true, decide_false, true_and, and_true, le_size, add_ll, add_tt, tuple_lst, tuple_tup, list_tup, list_lst, sl_tup, sl_lst, ii_non_int, ii_non_bool, ii_non_str, ii_non_tuple, ii_non_list, ii_non_dict, ii_bl_int, ii_bl_bool, ii_bl_str, ii_bl_tuple, ii_bl_list, ii_bl_dict, ii_int_int, ii_int_bool, ii_int_str, ii_int_tuple, ii_int_list, ii_int_dict, ii_str_int, ii_str_bool, ii_str_str, ii_str_tuple, ii_str_list, ii_str_dict, ii_tup_int, ii_tup_bool, ii_tup_str, ii_tup_tuple, ii_tup_list, ii_tup_dict, ii_lst_int, ii_lst_bool, ii_lst_str, ii_lst_tuple, ii_lst_list, ii_lst_dict, ii_fz_int, ii_fz_bool, ii_fz_str, ii_fz_tuple, ii_fz_list, ii_fz_dict]
      refine pick_dr r3.dk (by decide) (by decide) fun x S4 x1 x2 r4 => ?_
      simp only [wps, w_C, w_Var, k_Var, w_Bin, k_Bin1, k_Bin2, w_Tst, k_B, w_Chain, k_Ch1, k_Ch2, k_Ch3t, k_Ch3f, k_Ch4, w_And, w_Or, w_Not, k_Andt, k_Andf, k_Ort, k_Orf, k_Not, w_bAnd, w_bOr, w_bNot, w_bYes, k_bAndt, k_bAndf, k_bOrt, k_bOrf, k_bNot, w_dIf, k_dIft, k_dIff, w_aNil, w_aCons, k_Cons1, k_Cons2, w_Tup, w_Lst, w_Cell, k_Tup, k_Lst, k_Cell, w_Call, k_Call, w_CallF, k_CallF, w_CallN, k_CallN, k_New, k_AddN1, w_Un, k_Un, w_Sl, k_Sl1, k_Sl2, k_Sl3, w_No, w_So, k_So, w_iSeq, k_Items, w_Range1, w_Range2, k_Rng1, k_Rng2, w_iEnum, k_Enum, w_Comp, k_Comp, k_AsL, w_TupRg, w_LstRg, k_TupRg, k_LstRg, w_Rev, k_Rev, rev_tup, rev_lst, k_Di1, k_PT1, k_PT2, w_Nil, w_Nop, w_Fl, w_Seq, k_Seqn, k_Seqr, k_Seqb, k_Seqc, w_Expr, k_Drop, w_Ret, k_Ret, w_Set, k_Set, w_Asg, k_Asg1, k_Nx, w_If, k_Ift, k_Iff, w_For, k_For, k_Put1, k_Put2, w_Fun, w_Fun0, k_Funn, k_Funr, w_newK, w_newT, asB_bl, gN, gTupD, gsCons, gsNil, wipeE, itemsOf, seqItems, len_str, add_ii, sub_ii, neg_i, lt_ii, le_ii, gt_ii, ge_ii, eq_ii, ne_ii, eq_ss, ne_ss, isnot_bb, is_bb, is_non, isnot_non, isNonD, ix_tupD, ix_lstD, ix_fzD, at_lit0, at_lit1, at_lit2, at_lit3, len_fz, len_lst, len_tup, List.map_cons, List.map_nil, List.length_cons, List.length_nil, List.getElem?_cons_zero, List.getElem?_cons_succ, List.set_cons_zero, List.set_cons_succ, List.cons_append, List.nil_append, List.replicate_succ, List.replicate_zero, Nat.reduceSub, Nat.reduceAdd, Nat.reduceLeDiff, if_true, if_false, Bool.false_eq_true, Bool.true_eq_false, Bool.not_true, Bool.not_false, Option.bind_some, Option.map_some, Nat.zero_add, ite_true, ite_false, Int.cast_ofNat_Int, Int.natCast_zero, Int.natCast_one, Int.reduceLT, Int.reduceLE, Int.reduceEq, Int.reduceAdd, Int.reduceSub, Int.reduceNeg, decide_true, decide_false, true_and, and_true, le_size, add_ll, add_tt, tuple_lst, tuple_tup, list_tup, list_lst, sl_tup, sl_lst, ii_non_int, ii_non_bool, ii_non_str, ii_non_tuple, ii_non_list, ii_non_dict, ii_bl_int, ii_bl_bool, ii_bl_str, ii_bl_tuple, ii_bl_list, ii_bl_dict, ii_int_int, ii_int_bool, ii_int_str, ii_int_tuple, ii_int_list, ii_int_dict, ii_str_int, ii_str_bool, ii_str_str, ii_str_tuple, ii_str_list, ii_str_dict, ii_tup_int, ii_tup_bool, ii_tup_str, ii_tup_tuple, ii_tup_list, ii_tup_dict, ii_lst_int, ii_lst_bool, ii_lst_str, ii_lst_tuple, ii_lst_list, ii_lst_dict, ii_fz_int, ii_fz_bool, ii_fz_str, ii_fz_tuple, ii_fz_list, ii_fz_dict]
      refine kk _ cs S4 ⟨by omega, by omega, by omega, by omega, fun z hz => ?_⟩ ((r1.trans r2).trans (r3.trans r4))
      have := hc z hz
      rw [hl, show (((1 + v).toNat : Nat) : Int) = 1 + v by omega, ← hmost]
      exact this
    simp only [wps, w_C, w_Var, k_Var, w_Bin, k_Bin1, k_Bin2, w_Tst, k_B, w_Chain, k_Ch1, k_Ch2, k_Ch3t, k_Ch3f, k_Ch4, w_And, w_Or, w_Not, k_Andt, k_Andf, k_Ort, k_Orf, k_Not, w_bAnd, w_bOr, w_bNot, w_bYes, k_bAndt, k_bAndf, k_bOrt, k_bOrf, k_bNot, w_dIf, k_dIft, k_dIff, w_aNil, w_aCons, k_Cons1, k_Cons2, w_Tup, w_Lst, w_Cell, k_Tup, k_Lst, k_Cell, w_Call, k_Call, w_CallF, k_CallF, w_CallN, k_CallN, k_New, k_AddN1, w_Un, k_Un, w_Sl, k_Sl1, k_Sl2, k_Sl3, w_No, w_So, k_So, w_iSeq, k_Items, w_Range1, w_Range2, k_Rng1, k_Rng2, w_iEnum, k_Enum, w_Comp, k_Comp, k_AsL, w_TupRg, w_LstRg, k_TupRg, k_LstRg, w_Rev, k_Rev, rev_tup, rev_lst, k_Di1, k_PT1, k_PT2, w_Nil, w_Nop, w_Fl, w_Seq, k_Seqn, k_Seqr, k_Seqb, k_Seqc, w_Expr, k_Drop, w_Ret, k_Ret, w_Set, k_Set, w_Asg, k_Asg1, k_Nx, w_If, k_Ift, k_Iff, w_For, k_For, k_Put1, k_Put2, w_Fun, w_Fun0, k_Funn, k_Funr, w_newK, w_newT, asB_bl, gN, gTupD, gsCons, gsNil, wipeE, itemsOf, seqItems, len_str, add_ii, sub_ii, neg_i, lt_ii, le_ii, gt_ii, ge_ii, eq_ii, ne_ii, eq_ss, ne_ss, isnot_bb, is_bb, is_non, isnot_non, isNonD, ix_tupD, ix_lstD, ix_fzD, at_lit0, at_lit1, at_lit2, at_lit3, len_fz, len_lst, len_tup, List.map_cons, List.map_nil, List.length_cons, List.length_nil, List.getElem?_cons_zero, List.getElem?_cons_succ, List.set_cons_zero, List.set_cons_succ, List.cons_append, List.nil_append, List.replicate_succ, List.replicate_zero, Nat.reduceSub, Nat.reduceAdd, Nat.reduceLeDiff, if_true, if_false, Bool.false_eq_true, Bool.true_eq_false, Bool.not_true, Bool.not_false, Option.bind_some, Option.map_some, Nat.zero_add, ite_true, ite_false, Int.cast_ofNat_Int, Int.natCast_zero, Int.natCast_one, Int.reduceLT, Int.reduceLE, Int.reduceEq, Int.reduceAdd, Int.reduceSub, Int.reduceNeg, decide_true, decide_false, true_and, and_true, le_size, add_ll, add_tt, tuple_lst, tuple_tup, list_tup, list_lst, sl_tup, sl_lst, ii_non_int, ii_non_bool, ii_non_str, ii_non_tuple, ii_non_list, ii_non_dict, ii_bl_int, ii_bl_bool, ii_bl_str, ii_bl_tuple, ii_bl_list, ii_bl_dict, ii_int_int, ii_int_bool, ii_int_str, ii_int_tuple, ii_int_list, ii_int_dict, ii_str_int, ii_str_bool, ii_str_str, ii_str_tuple, ii_str_list, ii_str_dict, ii_tup_int, ii_tup_bool, ii_tup_str, ii_tup_tuple, ii_tup_list, ii_tup_dict, ii_lst_int, ii_lst_bool, ii_lst_str, ii_lst_tuple, ii_lst_list, ii_lst_dict, ii_fz_int, ii_fz_bool, ii_fz_str, ii_fz_tuple, ii_fz_list, ii_fz_dict]
    refine k_Ifd (fun c0 => ?_) fun c0 => ?_
    · simp only [w_Set, k_Set, w_Comp, k_Comp, w_Range1, k_Rng1, w_aCons, k_Cons1, k_Cons2, w_aNil, w_Var, k_Var, wps, wipeE, List.getElem?_cons_zero, List.getElem?_cons_succ, List.set_cons_zero, List.set_cons_succ, rng1_int (show 0 ≤ 1 + v by omega) (show 1 + v < 2 ^ 62 by omega)]
      have h0 : 0 < cs.length := by omega
      refine compGo_pure (fun _ => .int cs[0]) (by rw [rng_len, sizeLine_eq]; omega) (fun d hd => ⟨_, rfl, ?_⟩) ?_
      · simp only [wps, w_C, w_Var, k_Var, w_Bin, k_Bin1, k_Bin2, w_Tst, k_B, w_Chain, k_Ch1, k_Ch2, k_Ch3t, k_Ch3f, k_Ch4, w_And, w_Or, w_Not, k_Andt, k_Andf, k_Ort, k_Orf, k_Not, w_bAnd, w_bOr, w_bNot, w_bYes, k_bAndt, k_bAndf, k_bOrt, k_bOrf, k_bNot, w_dIf, k_dIft, k_dIff, w_aNil, w_aCons, k_Cons1, k_Cons2, w_Tup, w_Lst, w_Cell, k_Tup, k_Lst, k_Cell, w_Call, k_Call, w_CallF, k_CallF, w_CallN, k_CallN, k_New, k_AddN1, w_Un, k_Un, w_Sl, k_Sl1, k_Sl2, k_Sl3, w_No, w_So, k_So, w_iSeq, k_Items, w_Range1, w_Range2, k_Rng1, k_Rng2, w_iEnum, k_Enum, w_Comp, k_Comp, k_AsL, w_TupRg, w_LstRg, k_TupRg, k_LstRg, w_Rev, k_Rev, rev_tup, rev_lst, k_Di1, k_PT1, k_PT2, w_Nil, w_Nop, w_Fl, w_Seq, k_Seqn, k_Seqr, k_Seqb, k_Seqc, w_Expr, k_Drop, w_Ret, k_Ret, w_Set, k_Set, w_Asg, k_Asg1, k_Nx, w_If, k_Ift, k_Iff, w_For, k_For, k_Put1, k_Put2, w_Fun, w_Fun0, k_Funn, k_Funr, w_newK, w_newT, asB_bl, gN, gTupD, gsCons, gsNil, wipeE, itemsOf, seqItems, len_str, add_ii, sub_ii, neg_i, lt_ii, le_ii, gt_ii, ge_ii, eq_ii, ne_ii, eq_ss, ne_ss, isnot_bb, is_bb, is_non, isnot_non, isNonD, ix_tupD, ix_lstD, ix_fzD, at_lit0, at_lit1, at_lit2, at_lit3, len_fz, len_lst, len_tup, List.map_cons, List.map_nil, List.length_cons, List.length_nil, List.getElem?_cons_zero, List.getElem?_cons_succ, List.set_cons_zero, List.set_cons_succ, List.cons_append, List.nil_append, List.replicate_succ, List.replicate_zero, Nat.reduceSub, Nat.reduceAdd, Nat.reduceLeDiff, if_true, if_false, Bool.false_eq_true, Bool.true_eq_false, Bool.not_true, Bool.not_false, Option.bind_some, Option.map_some, Nat.zero_add, ite_true, ite_false, Int.cast_ofNat_Int, Int.natCast_zero, Int.natCast_one, Int.reduceLT, Int.reduceLE, Int.reduceEq, Int.reduceAdd, Int.reduceSub, Int.reduceNeg, decide_true, decide_false, true_and, and_true, le_size, add_ll, add_tt, tuple_lst, tuple_tup, list_tup, list_lst, sl_tup, sl_lst, ii_non_int, ii_non_bool, ii_non_str, ii_non_tuple, ii_non_list, ii_non_dict, ii_bl_int, ii_bl_bool, ii_bl_str, ii_bl_tuple, ii_bl_list, ii_bl_dict, ii_int_int, ii_int_bool, ii_int_str, ii_int_tuple, ii_int_list, ii_int_dict, ii_str_int, ii_str_bool, ii_str_str, ii_str_tuple, ii_str_list, ii_str_dict, ii_tup_int, ii_tup_bool, ii_tup_str, ii_tup_tuple, ii_tup_list, ii_tup_dict, ii_lst_int, ii_lst_bool, ii_lst_str, ii_lst_tuple, ii_lst_list, ii_lst_dict, ii_fz_int, ii_fz_bool, ii_fz_str, ii_fz_tuple, ii_fz_list, ii_fz_dict, at_nat (ds := cs.map D.int) (i := 0) (d := .int cs[0]) (by decide) (by rw [List.getElem?_map, List.getElem?_eq_getElem (show (0 : Int).toNat < cs.length from h0)]; rfl)]
      · simp only [k_AsL, k_Set, k_Seqn, List.set_cons_zero, List.set_cons_succ]
        have e : (rngL 0 (1 + v).toNat).map (fun _ => D.int cs[0]) = (List.replicate (1 + v).toNat cs[0]).map D.int := by
          rw [List.map_replicate]
          exact List.eq_replicate_iff.mpr ⟨by rw [List.length_map, rng_len], fun y hy => by obtain ⟨_, _, e⟩ := List.mem_map.mp hy; exact e.symm⟩
        rw [e]
        refine fin _ (List.length_replicate ..) fun c hc => ?_
        rw [List.eq_of_mem_replicate hc]
        exact hcs _ (List.getElem_mem h0)
    · simp only [w_Nil, k_Seqn]
      exact fin cs hcl hcs
  simp only [wps, w_C, w_Var, k_Var, w_Bin, k_Bin1, k_Bin2, w_Tst, k_B, w_Chain, k_Ch1, k_Ch2, k_Ch3t, k_Ch3f, k_Ch4, w_And, w_Or, w_Not, k_Andt, k_Andf, k_Ort, k_Orf, k_Not, w_bAnd, w_bOr, w_bNot, w_bYes, k_bAndt, k_bAndf, k_bOrt, k_bOrf, k_bNot, w_dIf, k_dIft, k_dIff, w_aNil, w_aCons, k_Cons1, k_Cons2, w_Tup, w_Lst, w_Cell, k_Tup, k_Lst, k_Cell, w_Call, k_Call, w_CallF, k_CallF, w_CallN, k_CallN, k_New, k_AddN1, w_Un, k_Un, w_Sl, k_Sl1, k_Sl2, k_Sl3, w_No, w_So, k_So, w_iSeq, k_Items, w_Range1, w_Range2, k_Rng1, k_Rng2, w_iEnum, k_Enum, w_Comp, k_Comp, k_AsL, w_TupRg, w_LstRg, k_TupRg, k_LstRg, w_Rev, k_Rev, rev_tup, rev_lst, k_Di1, k_PT1, k_PT2, w_Nil, w_Nop, w_Fl, w_Seq, k_Seqn, k_Seqr, k_Seqb, k_Seqc, w_Expr, k_Drop, w_Ret, k_Ret, w_Set, k_Set, w_Asg, k_Asg1, k_Nx, w_If, k_Ift, k_Iff, w_For, k_For, k_Put1, k_Put2, w_Fun, w_Fun0, k_Funn, k_Funr, w_newK, w_newT, asB_bl, gN, gTupD, gsCons, gsNil, wipeE, itemsOf, seqItems, len_str, add_ii, sub_ii, neg_i, lt_ii, le_ii, gt_ii, ge_ii, eq_ii, ne_ii, eq_ss, ne_ss, isnot_bb, is_bb, is_non, isnot_non, isNonD, ix_tupD, ix_lstD, ix_fzD, at_lit0, at_lit1, at_lit2, at_lit3, len_fz, len_lst, len_tup, List.map_cons, List.map_nil, List.length_cons, List.length_nil, List.getElem?_cons_zero, List.getElem?_cons_succ, List.set_cons_zero, List.set_cons_succ, List.cons_append, List.nil_append, List.replicate_succ, List.replicate_zero, Nat.reduceSub, Nat.reduceAdd, Nat.reduceLeDiff, if_true, if_false, Bool.false_eq_true, Bool.true_eq_false, Bool.not_true, Bool.not_false, Option.bind_some, Option.map_some, Nat.zero_add, ite_true, ite_false, Int.cast_ofNat_Int, Int.natCast_zero, Int.natCast_one, Int.reduceLT, Int.reduceLE, Int.reduceEq, Int.reduceAdd, Int.reduceSub, Int.reduceNeg, decide_true, decide_false, true_and, and_true, le_size, add_ll, add_tt, tuple_lst, tuple_tup, list_tup, list_lst, sl_tup, sl_lst, ii_non_int, ii_non_bool, ii_non_str, ii_non_tuple, ii_non_list, ii_non_dict, ii_bl_int, ii_bl_bool, ii_bl_str, ii_bl_tuple, ii_bl_list, ii_bl_dict, ii_int_int, ii_int_bool, ii_int_str, ii_int_tuple, ii_int_list, ii_int_dict, ii_str_int, ii_str_bool, ii_str_str, ii_str_tuple, ii_str_list, ii_str_dict, ii_tup_int, ii_tup_bool, ii_tup_str, ii_tup_tuple, ii_tup_list, ii_tup_dict, ii_lst_int, ii_lst_bool, ii_lst_str, ii_lst_tuple, ii_lst_list, ii_lst_dict, ii_fz_int, ii_fz_bool, ii_fz_str, ii_fz_tuple, ii_fz_list, ii_fz_dict]
  cases great with
  | true =>
    have r := rest 4 rfl
    simp only [wps, w_C, w_Var, k_Var, w_Bin, k_Bin1, k_Bin2, w_Tst, k_B, w_Chain, k_Ch1, k_Ch2, k_Ch3t, k_Ch3f, k_Ch4, w_And, w_Or, w_Not, k_Andt, k_Andf, k_Ort, k_Orf, k_Not, w_bAnd, w_bOr, w_bNot, w_bYes, k_bAndt, k_bAndf, k_bOrt, k_bOrf, k_bNot, w_dIf, k_dIft, k_dIff, w_aNil, w_aCons, k_Cons1, k_Cons2, w_Tup, w_Lst, w_Cell, k_Tup, k_Lst, k_Cell, w_Call, k_Call, w_CallF, k_CallF, w_CallN, k_CallN, k_New, k_AddN1, w_Un, k_Un, w_Sl, k_Sl1, k_Sl2, k_Sl3, w_No, w_So, k_So, w_iSeq, k_Items, w_Range1, w_Range2, k_Rng1, k_Rng2, w_iEnum, k_Enum, w_Comp, k_Comp, k_AsL, w_TupRg, w_LstRg, k_TupRg, k_LstRg, w_Rev, k_Rev, rev_tup, rev_lst, k_Di1, k_PT1, k_PT2, w_Nil, w_Nop, w_Fl, w_Seq, k_Seqn, k_Seqr, k_Seqb, k_Seqc, w_Expr, k_Drop, w_Ret, k_Ret, w_Set, k_Set, w_Asg, k_Asg1, k_Nx, w_If, k_Ift, k_Iff, w_For, k_For, k_Put1, k_Put2, w_Fun, w_Fun0, k_Funn, k_Funr, w_newK, w_newT, asB_bl, gN, gTupD, gsCons, gsNil, wipeE, itemsOf, seqItems, len_str, add_ii, sub_ii, neg_i, lt_ii, le_ii, gt_ii, ge_ii, eq_ii, ne_ii, eq_ss, ne_ss, isnot_bb, is_bb, is_non, isnot_non, isNonD, ix_tupD, ix_lstD, ix_fzD, at_lit0, at_lit1, at_lit2, at_lit3, len_fz, len_lst, len_tup, List.map_cons, List.map_nil, List.length_cons, List.length_nil, List.getElem?_cons_zero, List.getElem?_cons_succ, List.set_cons_zero, List.set_cons_succ, List.cons_append, List.nil_append, List.replicate_succ, List.replicate_zero, Nat.reduceSub, Nat.reduceAdd, Nat.reduceLeDiff, if_true, if_false, Bool.false_eq_true, Bool.true_eq_false, Bool.not_true, Bool.not_false, Option.bind_some, Option.map_some, Nat.zero_add, ite_true, ite_false, Int.cast_ofNat_Int, Int.natCast_zero, Int.natCast_one, Int.reduceLT, Int.reduceLE, Int.reduceEq, Int.reduceAdd, Int.reduceSub, Int.reduceNeg, decide_true, decide_false, true_and, and_true, le_size, add_ll, add_tt, tuple_lst, tuple_tup, list_tup, list_lst, sl_tup, sl_lst, ii_non_int, ii_non_bool, ii_non_str, ii_non_tuple, ii_non_list, ii_non_dict, ii_bl_int, ii_bl_bool, ii_bl_str, ii_bl_tuple, ii_bl_list, ii_bl_dict, ii_int_int, ii_int_bool, ii_int_str, ii_int_tuple, ii_int_list, ii_int_dict, ii_str_int, ii_str_bool, ii_str_str, ii_str_tuple, ii_str_list, ii_str_dict, ii_tup_int, ii_tup_bool, ii_tup_str, ii_tup_tuple, ii_tup_list, ii_tup_dict, ii_lst_int, ii_lst_bool, ii_lst_str, ii_lst_tuple, ii_lst_list, ii_lst_dict, ii_fz_int, ii_fz_bool, ii_fz_str, ii_fz_tuple, ii_fz_list, ii_fz_dict] at r ⊢
    exact r
  | false =>
    have c : v = 0 ∨ v = 1 ∨ v = 2 ∨ v = 3 ∨ v = 4 := by omega
    have hix : oIx S1 (.lst [.int 4, .int 4, .int 4, .int 2, .int 1]) (.int (1 + v - 1)) = some (.int (capN (1 + v))) := by
      rcases c with c | c | c | c | c <;> subst c <;> rfl
    simp only [w_bNot, w_Tst, w_Var, k_Var, k_B, k_bNot, k_Ift, Bool.not_false, w_Set, w_Bin, k_Bin1, k_Bin2, w_Lst, w_aCons, w_aNil, k_Cons1, k_Cons2, k_Lst, w_C, sub_ii, wps, hix, k_Set, k_Seqn, List.getElem?_cons_zero, List.getElem?_cons_succ, List.set_cons_zero, List.set_cons_succ, List.length_cons, List.length_nil, Nat.reduceAdd, le_size (show 5 ≤ 1000 by decide), true_and]
    exact rest _ rfl

end G
end DL
end L2

set_option Elab.async false
set_option linter.all false
set_option maxRecDepth 100000
namespace L2
namespace DL
open PySem PySem.Spec PyProof.Rows
namespace G
/-! ### groups -/
def Inc (ns : List Int) : Prop := ns.Pairwise (· < ·)
def PosL (cs : List Int) (e : Int) : Prop := 0 ≤ e ∧ ∃ c, cs[e.toNat]? = some c ∧ 0 < c
def SubL (lim : Nat → Prop) (cs : List Int) (i : Int) (ns : List Int) : Prop := Inc ns ∧ lim ns.length ∧ ∀ e ∈ ns, PosL cs e ∧ e < i
def Grp (k : Int) (cs ns : List Int) : Prop := (ns.length : Int) = k ∧ Inc ns ∧ ∀ e ∈ ns, PosL cs e
theorem PosL.lt {cs : List Int} {e : Int} (h : PosL cs e) : e < cs.length := by
  obtain ⟨h0, c, h1, _⟩ := h
  have := (List.getElem?_eq_some_iff.mp h1).1
  omega
theorem sub_nil {lim : Nat → Prop} (h0 : lim 0) (cs : List Int) (ns : List Int) : ns ∈ [([] : List Int)] ↔ SubL lim cs 0 ns := by
  rw [List.mem_singleton]
  refine ⟨fun e => by subst e; exact ⟨.nil, h0, fun e he => by cases he⟩, fun h => ?_⟩
  cases ns with
  | nil => rfl
  | cons e es =>
    have := h.2.2 e List.mem_cons_self
    have := this.1.1
    omega
theorem sub_split {cs : List Int} {i : Int} {ns : List Int} (hi : Inc ns) (h : ∀ e ∈ ns, PosL cs e ∧ e < i + 1) : (∀ e ∈ ns, PosL cs e ∧ e < i) ∨ ∃ m, ns = m ++ [i] ∧ Inc m ∧ ∀ e ∈ m, PosL cs e ∧ e < i := by
  rcases List.eq_nil_or_concat ns with e | ⟨m, x, e⟩
  · subst e; exact .inl fun e he => by cases he
  · rw [List.concat_eq_append] at e
    subst e
    have hp := List.pairwise_append.mp hi
    have hx := h x (by simp)
    have hm : ∀ e ∈ m, PosL cs e ∧ e < x := fun e he => ⟨(h e (List.mem_append_left _ he)).1, hp.2.2 e he x (by simp)⟩
    by_cases z : x = i
    · subst z
      exact .inr ⟨m, rfl, hp.1, hm⟩
    · refine .inl fun e he => ?_
      rcases List.mem_append.mp he with q | q
      · have := hm e q
        exact ⟨this.1, by omega⟩
      · rw [List.mem_singleton.mp q]
        exact ⟨hx.1, by omega⟩
theorem sub_step {lim : Nat → Prop} (hd : ∀ n, lim (n + 1) → lim n) {cs : List Int} {nss mm : List (List Int)} {i : Int} (h : ∀ ns, ns ∈ nss ↔ SubL lim cs i ns) (hm : ∀ ns, ns ∈ mm ↔ ns ∈ nss ∧ lim (ns.length + 1)) (hp : PosL cs i) :
    ∀ ns, ns ∈ nss ++ mm.map (· ++ [i]) ↔ SubL lim cs (i + 1) ns := by
  intro ns
  rw [List.mem_append, h]
  constructor
  · rintro (q | q)
    · exact ⟨q.1, q.2.1, fun e he => ⟨(q.2.2 e he).1, by have := (q.2.2 e he).2; omega⟩⟩
    · obtain ⟨m, h1, e⟩ := List.mem_map.mp q
      subst e
      obtain ⟨h2, h3⟩ := (hm m).mp h1
      obtain ⟨a, b, c⟩ := (h m).mp h2
      refine ⟨List.pairwise_append.mpr ⟨a, List.pairwise_singleton _ _, fun x hx y hy => ?_⟩, by rw [List.length_append]; exact h3, fun e he => ?_⟩
      · rw [List.mem_singleton.mp hy]; exact (c x hx).2
      · rcases List.mem_append.mp he with z | z
        · exact ⟨(c e z).1, by have := (c e z).2; omega⟩
        · rw [List.mem_singleton.mp z]; exact ⟨hp, by omega⟩
  · rintro ⟨a, b, c⟩
    rcases sub_split a c with z | ⟨m, e, hi, z⟩
    · exact .inl ⟨a, b, z⟩
    · subst e
      rw [List.length_append] at b
      exact .inr (List.mem_map.mpr ⟨m, (hm m).mpr ⟨(h m).mpr ⟨hi, hd _ b, z⟩, b⟩, rfl⟩)
theorem sub_skip {lim : Nat → Prop} {cs : List Int} {nss : List (List Int)} {i : Int} (h : ∀ ns, ns ∈ nss ↔ SubL lim cs i ns) (hp : ¬ PosL cs i) : ∀ ns, ns ∈ nss ↔ SubL lim cs (i + 1) ns := by
  intro ns
  rw [h]
  constructor
  · rintro ⟨a, b, c⟩
    exact ⟨a, b, fun e he => ⟨(c e he).1, by have := (c e he).2; omega⟩⟩
  · rintro ⟨a, b, c⟩
    rcases sub_split a c with z | ⟨m, e, hi, z⟩
    · exact ⟨a, b, z⟩
    · subst e
      exact absurd (c i (by simp)).1 hp
theorem sub_grp {lim : Nat → Prop} {k : Int} {cs ns : List Int} (hl : ∀ n : Nat, (n : Int) = k → lim n) : (SubL lim cs cs.length ns ∧ (ns.length : Int) = k) ↔ Grp k cs ns :=
  ⟨fun ⟨⟨a, b, c⟩, d⟩ => ⟨d, a, fun e he => (c e he).1⟩, fun ⟨a, b, c⟩ => ⟨⟨b, hl _ a, fun e he => ⟨c e he, (c e he).lt⟩⟩, a⟩⟩
theorem pos_at {cs : List Int} {i : Nat} {c : Int} (h : cs[i]? = some c) : PosL cs (i : Int) ↔ 0 < c := by
  refine ⟨fun ⟨_, c', h1, h2⟩ => ?_, fun h1 => ⟨Int.natCast_nonneg i, c, by rw [Int.toNat_natCast]; exact h, h1⟩⟩
  rw [Int.toNat_natCast, h] at h1
  cases h1
  exact h2
theorem tupI_app (ns : List Int) (e : Int) : D.tup (ns.map D.int ++ [.int e]) = tupI (ns ++ [e]) := by unfold tupI; rw [List.map_append]; rfl
theorem mapTup_map (f : List Int → List Int) (g : D → D) (h : ∀ ns, g (tupI ns) = tupI (f ns)) (nss : List (List Int)) : (nss.map tupI).map g = (nss.map f).map tupI := by
  rw [List.map_map, List.map_map]
  exact List.map_congr_left fun a _ => h a
/-- a list of tuples with one number more each -/
def snocD (i : Int) : D → D
  | .tup ds => .tup (ds ++ [.int i])
  | d => d
theorem snocD_I (i : Int) (ns : List Int) : snocD i (tupI ns) = tupI (ns ++ [i]) := tupI_app ns i
def lenD : D → Int
  | .tup ds => ds.length
  | _ => 0
theorem lenD_I (ns : List Int) : lenD (tupI ns) = ns.length := by show ((ns.map D.int).length : Int) = _; rw [List.length_map]
theorem filt_I (p : D → Bool) (q : List Int → Bool) (h : ∀ ns, p (tupI ns) = q ns) (nss : List (List Int)) : (nss.map tupI).filter p = (nss.filter q).map tupI := by
  rw [List.filter_map]
  exact congrArg _ (List.filter_congr fun a _ => h a)
theorem pow5 {i n : Nat} (h : i ≤ n) (hn : n ≤ 5) : 2 ^ i ≤ 32 := Nat.le_trans (Nat.pow_le_pow_right (by decide) (Nat.le_trans h hn)) (by decide)
theorem sorted_T {S : Sto} {d : Nat} (hd : 1 ≤ d) {fs : List (List Int)} (h : ∀ a ∈ fs, okT d a = true) (hl : fs.length < 64) : oSorted S [.lst (fs.map tupI)] = some (.lst ((sortT fs).map tupI)) := by
  cases fs with
  | nil =>
    show some (D.lst ((sortI []).map D.int)) = some (.lst ((sortT []).map tupI))
    simp [sortI, sortT]
  | cons a fs =>
    have hno : oSortI S [.lst ((a :: fs).map tupI)] = none := rfl
    unfold oSorted orC
    rw [hno]
    dsimp only
    unfold oSortT
    dsimp only
    show ((listOf S (.lst ((a :: fs).map tupI))).bind intsTL).bind _ = _
    rw [show (listOf S (.lst ((a :: fs).map tupI))).bind intsTL = some (a :: fs) from intsTL_map (a :: fs), Option.bind_some]
    have ha := (okT_iff.mp (h a List.mem_cons_self)).1
    have hall : (a :: fs).all (okT ((a :: fs).headD []).length) = true := List.all_eq_true.mpr fun b hb => by
      have := h b hb
      show okT a.length b = true
      rw [ha]
      exact this
    have hne : ((a :: fs).headD []).length ≠ 0 := by
      show a.length ≠ 0
      omega
    exact if_pos ⟨hl, .inl ⟨hne, hall⟩⟩
theorem groups_wp {S : Sto} {k : Int} {cs : List Int} {P : D → Sto → Prop} (hk : 1 ≤ k) (hl : cs.length ≤ 5) (kk : ∀ nss : List (List Int), (∀ ns, ns ∈ nss ↔ Grp k cs ns) → nss.length ≤ 32 → P (.lst (nss.map tupI)) S) : Wp (f__law_e_groups [.int k, .tup (cs.map D.int)] S) P := by
  unfold f__law_e_groups d__law_e_groups
  simp only [wps, w_C, w_Var, k_Var, w_Bin, k_Bin1, k_Bin2, w_Tst, k_B, w_Chain, k_Ch1, k_Ch2, k_Ch3t, k_Ch3f, k_Ch4, w_And, w_Or, w_Not, k_Andt, k_Andf, k_Ort, k_Orf, k_Not, w_bAnd, w_bOr, w_bNot, w_bYes, k_bAndt, k_bAndf, k_bOrt, k_bOrf, k_bNot, w_dIf, k_dIft, k_dIff, w_aNil, w_aCons, k_Cons1, k_Cons2, w_Tup, w_Lst, w_Cell, k_Tup, k_Lst, k_Cell, w_Call, k_Call, w_CallF, k_CallF, w_CallN, k_CallN, k_New, k_AddN1, w_Un, k_Un, w_Sl, k_Sl1, k_Sl2, k_Sl3, w_No, w_So, k_So, w_iSeq, k_Items, w_Range1, w_Range2, k_Rng1, k_Rng2, w_iEnum, k_Enum, w_Comp, k_Comp, k_AsL, w_TupRg, w_LstRg, k_TupRg, k_LstRg, w_Rev, k_Rev, rev_tup, rev_lst, k_Di1, k_PT1, k_PT2, w_Nil, w_Nop, w_Fl, w_Seq, k_Seqn, k_Seqr, k_Seqb, k_Seqc, w_Expr, k_Drop, w_Ret, k_Ret, w_Set, k_Set, w_Asg, k_Asg1, k_Nx, w_If, k_Ift, k_Iff, w_For, k_For, k_Put1, k_Put2, w_Fun, w_Fun0, k_Funn, k_Funr, w_newK, w_newT, asB_bl, gN, gTupD, gsCons, gsNil, wipeE, itemsOf, seqItems, len_str, add_ii, sub_ii, neg_i, lt_ii, le_ii, gt_ii, ge_ii, eq_ii, ne_ii, eq_ss, ne_ss, isnot_bb, is_bb, is_non, isnot_non, isNonD, ix_tupD, ix_lstD, ix_fzD, at_lit0, at_lit1, at_lit2, at_lit3, len_fz, len_lst, len_tup, List.map_cons, List.map_nil, List.length_cons, List.length_nil, List.getElem?_cons_zero, List.getElem?_cons_succ, List.set_cons_zero, List.set_cons_succ, List.cons_append, List.nil_append, List.replicate_succ, List.replicate_zero, Nat.reduceSub, Nat.reduceAdd, Nat.reduceLeDiff, if_true, if_false, Bool.false_eq_true, Bool.true_eq_false, Bool.not_true, Bool.not_false, Option.bind_some, Option.map_some, Nat.zero_add, ite_true, ite_false, Int.cast_ofNat_Int, Int.natCast_zero, Int.natCast_one, Int.reduceLT, Int.reduceLE, Int.reduceEq, Int.reduceAdd, Int.reduceSub, Int.reduceNeg, decide_true, decide_false, true_and, and_true, le_size, add_ll, add_tt, tuple_lst, tuple_tup, list_tup, list_lst, sl_tup, sl_lst, ii_non_int, ii_non_bool, ii_non_str, ii_non_tuple, ii_non_list, ii_non_dict, ii_bl_int, ii_bl_bool, ii_bl_str, ii_bl_tuple, ii_bl_list, ii_bl_dict, ii_int_int, ii_int_bool, ii_int_str, ii_int_tuple, ii_int_list, ii_int_dict, ii_str_int, ii_str_bool, ii_str_str, ii_str_tuple, ii_str_list, ii_str_dict, ii_tup_int, ii_tup_bool, ii_tup_str, ii_tup_tuple, ii_tup_list, ii_tup_dict, ii_lst_int, ii_lst_bool, ii_lst_str, ii_lst_tuple, ii_lst_list, ii_lst_dict, ii_fz_int, ii_fz_bool, ii_fz_str, ii_fz_tuple, ii_fz_list, ii_fz_dict, List.length_map, rng1_int (show (0 : Int) ≤ cs.length by omega) (show (cs.length : Int) < 2 ^ 62 by omega)]
  refine forGo_wp (fun rest env T => ∃ (i : Nat) (nss : List (List Int)) (e3 e4 : Option D), rest = rngL (i : Int) (cs.length - i) ∧ i ≤ cs.length ∧ env = [some (.int k), some (.tup (cs.map D.int)), some (.lst (nss.map tupI)), e3, e4] ∧ T = S ∧ nss.length ≤ 2 ^ i ∧ ∀ ns, ns ∈ nss ↔ SubL (fun _ => True) cs (i : Int) ns) _ _ _
    ⟨0, [[]], none, none, by simp, by omega, rfl, rfl, by decide, sub_nil trivial cs⟩ (fun d rest env T hI => ?_) fun env T hI => ?_
  · obtain ⟨i, nss, e3, e4, e1, e2, e, eT, hn, hm⟩ := hI
    have hi : i < cs.length := by
      rcases Nat.lt_or_ge i cs.length with z | z
      · exact z
      · rw [show cs.length - i = 0 by omega] at e1; cases e1
    rw [show cs.length - i = (cs.length - (i + 1)) + 1 by omega, rng_succ] at e1
    obtain ⟨ed, er⟩ := List.cons.inj e1
    subst e ed eT
    refine ⟨_, rfl, ?_⟩
    have hat : ∀ U : Sto, oIx U (.tup (cs.map D.int)) (.int (i : Int)) = some (.int cs[i]) := fun U => by
      rw [ix_tupD]
      exact at_nat (by omega) (by rw [Int.toNat_natCast, List.getElem?_map, List.getElem?_eq_getElem hi]; rfl)
    have hp := pos_at (List.getElem?_eq_getElem hi)
    have h32 := pow5 (show i ≤ cs.length by omega) hl
    simp only [wps, w_C, w_Var, k_Var, w_Bin, k_Bin1, k_Bin2, w_Tst, k_B, w_Chain, k_Ch1, k_Ch2, k_Ch3t, k_Ch3f, k_Ch4, w_And, w_Or, w_Not, k_Andt, k_Andf, k_Ort, k_Orf, k_Not, w_bAnd, w_bOr, w_bNot, w_bYes, k_bAndt, k_bAndf, k_bOrt, k_bOrf, k_bNot, w_dIf, k_dIft, k_dIff, w_aNil, w_aCons, k_Cons1, k_Cons2, w_Tup, w_Lst, w_Cell, k_Tup, k_Lst, k_Cell, w_Call, k_Call, w_CallF, k_CallF, w_CallN, k_CallN, k_New, k_AddN1, w_Un, k_Un, w_Sl, k_Sl1, k_Sl2, k_Sl3, w_No, w_So, k_So, w_iSeq, k_Items, w_Range1, w_Range2, k_Rng1, k_Rng2, w_iEnum, k_Enum, w_Comp, k_Comp, k_AsL, w_TupRg, w_LstRg, k_TupRg, k_LstRg, w_Rev, k_Rev, rev_tup, rev_lst, k_Di1, k_PT1, k_PT2, w_Nil, w_Nop, w_Fl, w_Seq, k_Seqn, k_Seqr, k_Seqb, k_Seqc, w_Expr, k_Drop, w_Ret, k_Ret, w_Set, k_Set, w_Asg, k_Asg1, k_Nx, w_If, k_Ift, k_Iff, w_For, k_For, k_Put1, k_Put2, w_Fun, w_Fun0, k_Funn, k_Funr, w_newK, w_newT, asB_bl, gN, gTupD, gsCons, gsNil, wipeE, itemsOf, seqItems, len_str, add_ii, sub_ii, neg_i, lt_ii, le_ii, gt_ii, ge_ii, eq_ii, ne_ii, eq_ss, ne_ss, isnot_bb, is_bb, is_non, isnot_non, isNonD, ix_tupD, ix_lstD, ix_fzD, at_lit0, at_lit1, at_lit2, at_lit3, len_fz, len_lst, len_tup, List.map_cons, List.map_nil, List.length_cons, List.length_nil, List.getElem?_cons_zero, List.getElem?_cons_succ, List.set_cons_zero, List.set_cons_succ, List.cons_append, List.nil_append, List.replicate_succ, List.replicate_zero, Nat.reduceSub, Nat.reduceAdd, Nat.reduceLeDiff, if_true, if_false, Bool.false_eq_true, Bool.true_eq_false, Bool.not_true, Bool.not_false, Option.bind_some, Option.map_some, Nat.zero_add, ite_true, ite_false, Int.cast_ofNat_Int, Int.natCast_zero, Int.natCast_one, Int.reduceLT, Int.reduceLE, Int.reduceEq, Int.reduceAdd, Int.reduceSub, Int.reduceNeg, decide_true, decide_false, true_and, and_true, le_size, add_ll, add_tt, tuple_lst, tuple_tup, list_tup, list_lst, sl_tup, sl_lst, ii_non_int, ii_non_bool, ii_non_str, ii_non_tuple, ii_non_list, ii_non_dict, ii_bl_int, ii_bl_bool, ii_bl_str, ii_bl_tuple, ii_bl_list, ii_bl_dict, ii_int_int, ii_int_bool, ii_int_str, ii_int_tuple, ii_int_list, ii_int_dict, ii_str_int, ii_str_bool, ii_str_str, ii_str_tuple, ii_str_list, ii_str_dict, ii_tup_int, ii_tup_bool, ii_tup_str, ii_tup_tuple, ii_tup_list, ii_tup_dict, ii_lst_int, ii_lst_bool, ii_lst_str, ii_lst_tuple, ii_lst_list, ii_lst_dict, ii_fz_int, ii_fz_bool, ii_fz_str, ii_fz_tuple, ii_fz_list, ii_fz_dict, hat]
    refine k_Ifd (fun c0 => ?_) fun c0 => ?_
    · simp only [wps, w_C, w_Var, k_Var, w_Bin, k_Bin1, k_Bin2, w_Tst, k_B, w_Chain, k_Ch1, k_Ch2, k_Ch3t, k_Ch3f, k_Ch4, w_And, w_Or, w_Not, k_Andt, k_Andf, k_Ort, k_Orf, k_Not, w_bAnd, w_bOr, w_bNot, w_bYes, k_bAndt, k_bAndf, k_bOrt, k_bOrf, k_bNot, w_dIf, k_dIft, k_dIff, w_aNil, w_aCons, k_Cons1, k_Cons2, w_Tup, w_Lst, w_Cell, k_Tup, k_Lst, k_Cell, w_Call, k_Call, w_CallF, k_CallF, w_CallN, k_CallN, k_New, k_AddN1, w_Un, k_Un, w_Sl, k_Sl1, k_Sl2, k_Sl3, w_No, w_So, k_So, w_iSeq, k_Items, w_Range1, w_Range2, k_Rng1, k_Rng2, w_iEnum, k_Enum, w_Comp, k_Comp, k_AsL, w_TupRg, w_LstRg, k_TupRg, k_LstRg, w_Rev, k_Rev, rev_tup, rev_lst, k_Di1, k_PT1, k_PT2, w_Nil, w_Nop, w_Fl, w_Seq, k_Seqn, k_Seqr, k_Seqb, k_Seqc, w_Expr, k_Drop, w_Ret, k_Ret, w_Set, k_Set, w_Asg, k_Asg1, k_Nx, w_If, k_Ift, k_Iff, w_For, k_For, k_Put1, k_Put2, w_Fun, w_Fun0, k_Funn, k_Funr, w_newK, w_newT, asB_bl, gN, gTupD, gsCons, gsNil, wipeE, itemsOf, seqItems, len_str, add_ii, sub_ii, neg_i, lt_ii, le_ii, gt_ii, ge_ii, eq_ii, ne_ii, eq_ss, ne_ss, isnot_bb, is_bb, is_non, isnot_non, isNonD, ix_tupD, ix_lstD, ix_fzD, at_lit0, at_lit1, at_lit2, at_lit3, len_fz, len_lst, len_tup, List.map_cons, List.map_nil, List.length_cons, List.length_nil, List.getElem?_cons_zero, List.getElem?_cons_succ, List.set_cons_zero, List.set_cons_succ, List.cons_append, List.nil_append, List.replicate_succ, List.replicate_zero, Nat.reduceSub, Nat.reduceAdd, Nat.reduceLeDiff, if_true, if_false, Bool.false_eq_true, Bool.true_eq_false, Bool.not_true, Bool.not_false, Option.bind_some, Option.map_some, Nat.zero_add, ite_true, ite_false, Int.cast_ofNat_Int, Int.natCast_zero, Int.natCast_one, Int.reduceLT, Int.reduceLE, Int.reduceEq, Int.reduceAdd, Int.reduceSub, Int.reduceNeg, decide_true, decide_false, true_and, and_true, le_size, add_ll, add_tt, tuple_lst, tuple_tup, list_tup, list_lst, sl_tup, sl_lst, ii_non_int, ii_non_bool, ii_non_str, ii_non_tuple, ii_non_list, ii_non_dict, ii_bl_int, ii_bl_bool, ii_bl_str, ii_bl_tuple, ii_bl_list, ii_bl_dict, ii_int_int, ii_int_bool, ii_int_str, ii_int_tuple, ii_int_list, ii_int_dict, ii_str_int, ii_str_bool, ii_str_str, ii_str_tuple, ii_str_list, ii_str_dict, ii_tup_int, ii_tup_bool, ii_tup_str, ii_tup_tuple, ii_tup_list, ii_tup_dict, ii_lst_int, ii_lst_bool, ii_lst_str, ii_lst_tuple, ii_lst_list, ii_lst_dict, ii_fz_int, ii_fz_bool, ii_fz_str, ii_fz_tuple, ii_fz_list, ii_fz_dict]
      refine compGo_pure (snocD (i : Int)) (by rw [List.length_map, sizeLine_eq]; omega) (fun d hd => ⟨_, rfl, ?_⟩) ?_
      · obtain ⟨ns, hns, ed⟩ := List.mem_map.mp hd
        subst ed
        have hsh := ((hm ns).mp hns)
        have hlen : ns.length ≤ 5 := by
          have : ∀ (l : List Int), Inc l → (∀ e ∈ l, 0 ≤ e ∧ e < (i : Int)) → l.length ≤ i := by
            intro l hl hb
            have nd : l.Nodup := hl.imp fun h => by omega
            have h2 : (l.map Int.toNat).Nodup := List.pairwise_map.mpr (nd.imp_of_mem fun {a b} ha hb' h => by have := hb a ha; have := hb b hb'; omega)
            have h3 := List.Nodup.length_le_of_subset h2 (l₂ := List.range i) fun x hx => by
              obtain ⟨e, he, ee⟩ := List.mem_map.mp hx
              have := hb e he
              rw [List.mem_range]
              omega
            rw [List.length_map, List.length_range] at h3
            exact h3
          have := this ns hsh.1 fun e he => ⟨(hsh.2.2 e he).1.1, (hsh.2.2 e he).2⟩
          omega
        have hadd : oAdd T (tupI ns) (.tup [.int (i : Int)]) = some (snocD (i : Int) (tupI ns)) := add_tt (by rw [List.length_map]; show ns.length + 1 ≤ 1000; omega)
        simp only [wps, w_C, w_Var, k_Var, w_Bin, k_Bin1, k_Bin2, w_Tst, k_B, w_Chain, k_Ch1, k_Ch2, k_Ch3t, k_Ch3f, k_Ch4, w_And, w_Or, w_Not, k_Andt, k_Andf, k_Ort, k_Orf, k_Not, w_bAnd, w_bOr, w_bNot, w_bYes, k_bAndt, k_bAndf, k_bOrt, k_bOrf, k_bNot, w_dIf, k_dIft, k_dIff, w_aNil, w_aCons, k_Cons1, k_Cons2, w_Tup, w_Lst, w_Cell, k_Tup, k_Lst, k_Cell, w_Call, k_Call, w_CallF, k_CallF, w_CallN, k_CallN, k_New, k_AddN1, w_Un, k_Un, w_Sl, k_Sl1, k_Sl2, k_Sl3, w_No, w_So, k_So, w_iSeq, k_Items, w_Range1, w_Range2, k_Rng1, k_Rng2, w_iEnum, k_Enum, w_Comp, k_Comp, k_AsL, w_TupRg, w_LstRg, k_TupRg, k_LstRg, w_Rev, k_Rev, rev_tup, rev_lst, k_Di1, k_PT1, k_PT2, w_Nil, w_Nop, w_Fl, w_Seq, k_Seqn, k_Seqr, k_Seqb, k_Seqc, w_Expr, k_Drop, w_Ret, k_Ret, w_Set, k_Set, w_Asg, k_Asg1, k_Nx, w_If, k_Ift, k_Iff, w_For, k_For, k_Put1, k_Put2, w_Fun, w_Fun0, k_Funn, k_Funr, w_newK, w_newT, asB_bl, gN, gTupD, gsCons, gsNil, wipeE, itemsOf, seqItems, len_str, add_ii, sub_ii, neg_i, lt_ii, le_ii, gt_ii, ge_ii, eq_ii, ne_ii, eq_ss, ne_ss, isnot_bb, is_bb, is_non, isnot_non, isNonD, ix_tupD, ix_lstD, ix_fzD, at_lit0, at_lit1, at_lit2, at_lit3, len_fz, len_lst, len_tup, List.map_cons, List.map_nil, List.length_cons, List.length_nil, List.getElem?_cons_zero, List.getElem?_cons_succ, List.set_cons_zero, List.set_cons_succ, List.cons_append, List.nil_append, List.replicate_succ, List.replicate_zero, Nat.reduceSub, Nat.reduceAdd, Nat.reduceLeDiff, if_true, if_false, Bool.false_eq_true, Bool.true_eq_false, Bool.not_true, Bool.not_false, Option.bind_some, Option.map_some, Nat.zero_add, ite_true, ite_false, Int.cast_ofNat_Int, Int.natCast_zero, Int.natCast_one, Int.reduceLT, Int.reduceLE, Int.reduceEq, Int.reduceAdd, Int.reduceSub, Int.reduceNeg, decide_true, decide_false, true_and, and_true, le_size, add_ll, add_tt, tuple_lst, tuple_tup, list_tup, list_lst, sl_tup, sl_lst, ii_non_int, ii_non_bool, ii_non_str, ii_non_tuple, ii_non_list, ii_non_dict, ii_bl_int, ii_bl_bool, ii_bl_str, ii_bl_tuple, ii_bl_list, ii_bl_dict, ii_int_int, ii_int_bool, ii_int_str, ii_int_tuple, ii_int_list, ii_int_dict, ii_str_int, ii_str_bool, ii_str_str, ii_str_tuple, ii_str_list, ii_str_dict, ii_tup_int, ii_tup_bool, ii_tup_str, ii_tup_tuple, ii_tup_list, ii_tup_dict, ii_lst_int, ii_lst_bool, ii_lst_str, ii_lst_tuple, ii_lst_list, ii_lst_dict, ii_fz_int, ii_fz_bool, ii_fz_str, ii_fz_tuple, ii_fz_list, ii_fz_dict, hadd]
      · rw [mapTup_map (· ++ [(i : Int)]) (snocD (i : Int)) (snocD_I _)]
        simp only [wps, w_C, w_Var, k_Var, w_Bin, k_Bin1, k_Bin2, w_Tst, k_B, w_Chain, k_Ch1, k_Ch2, k_Ch3t, k_Ch3f, k_Ch4, w_And, w_Or, w_Not, k_Andt, k_Andf, k_Ort, k_Orf, k_Not, w_bAnd, w_bOr, w_bNot, w_bYes, k_bAndt, k_bAndf, k_bOrt, k_bOrf, k_bNot, w_dIf, k_dIft, k_dIff, w_aNil, w_aCons, k_Cons1, k_Cons2, w_Tup, w_Lst, w_Cell, k_Tup, k_Lst, k_Cell, w_Call, k_Call, w_CallF, k_CallF, w_CallN, k_CallN, k_New, k_AddN1, w_Un, k_Un, w_Sl, k_Sl1, k_Sl2, k_Sl3, w_No, w_So, k_So, w_iSeq, k_Items, w_Range1, w_Range2, k_Rng1, k_Rng2, w_iEnum, k_Enum, w_Comp, k_Comp, k_AsL, w_TupRg, w_LstRg, k_TupRg, k_LstRg, w_Rev, k_Rev, rev_tup, rev_lst, k_Di1, k_PT1, k_PT2, w_Nil, w_Nop, w_Fl, w_Seq, k_Seqn, k_Seqr, k_Seqb, k_Seqc, w_Expr, k_Drop, w_Ret, k_Ret, w_Set, k_Set, w_Asg, k_Asg1, k_Nx, w_If, k_Ift, k_Iff, w_For, k_For, k_Put1, k_Put2, w_Fun, w_Fun0, k_Funn, k_Funr, w_newK, w_newT, asB_bl, gN, gTupD, gsCons, gsNil, wipeE, itemsOf, seqItems, len_str, add_ii, sub_ii, neg_i, lt_ii, le_ii, gt_ii, ge_ii, eq_ii, ne_ii, eq_ss, ne_ss, isnot_bb, is_bb, is_non, isnot_non, isNonD, ix_tupD, ix_lstD, ix_fzD, at_lit0, at_lit1, at_lit2, at_lit3, len_fz, len_lst, len_tup, List.map_cons, List.map_nil, List.length_cons, List.length_nil, List.getElem?_cons_zero, List.getElem?_cons_succ, List.set_cons_zero, List.set_cons_succ, List.cons_append, List.nil_append, List.replicate_succ, List.replicate_zero, Nat.reduceSub, Nat.reduceAdd, Nat.reduceLeDiff, if_true, if_false, Bool.false_eq_true, Bool.true_eq_false, Bool.not_true, Bool.not_false, Option.bind_some, Option.map_some, Nat.zero_add, ite_true, ite_false, Int.cast_ofNat_Int, Int.natCast_zero, Int.natCast_one, Int.reduceLT, Int.reduceLE, Int.reduceEq, Int.reduceAdd, Int.reduceSub, Int.reduceNeg, decide_true, decide_false, true_and, and_true, le_size, add_ll, add_tt, tuple_lst, tuple_tup, list_tup, list_lst, sl_tup, sl_lst, ii_non_int, ii_non_bool, ii_non_str, ii_non_tuple, ii_non_list, ii_non_dict, ii_bl_int, ii_bl_bool, ii_bl_str, ii_bl_tuple, ii_bl_list, ii_bl_dict, ii_int_int, ii_int_bool, ii_int_str, ii_int_tuple, ii_int_list, ii_int_dict, ii_str_int, ii_str_bool, ii_str_str, ii_str_tuple, ii_str_list, ii_str_dict, ii_tup_int, ii_tup_bool, ii_tup_str, ii_tup_tuple, ii_tup_list, ii_tup_dict, ii_lst_int, ii_lst_bool, ii_lst_str, ii_lst_tuple, ii_lst_list, ii_lst_dict, ii_fz_int, ii_fz_bool, ii_fz_str, ii_fz_tuple, ii_fz_list, ii_fz_dict]
        have hadd : oAdd T (.lst (nss.map tupI)) (.lst ((nss.map (· ++ [(i : Int)])).map tupI)) = some (.lst ((nss ++ nss.map (· ++ [(i : Int)])).map tupI)) := by
          rw [add_ll (by rw [List.length_map, List.length_map, List.length_map]; omega), List.map_append]
        simp only [wps, w_C, w_Var, k_Var, w_Bin, k_Bin1, k_Bin2, w_Tst, k_B, w_Chain, k_Ch1, k_Ch2, k_Ch3t, k_Ch3f, k_Ch4, w_And, w_Or, w_Not, k_Andt, k_Andf, k_Ort, k_Orf, k_Not, w_bAnd, w_bOr, w_bNot, w_bYes, k_bAndt, k_bAndf, k_bOrt, k_bOrf, k_bNot, w_dIf, k_dIft, k_dIff, w_aNil, w_aCons, k_Cons1, k_Cons2, w_Tup, w_Lst, w_Cell, k_Tup, k_Lst, k_Cell, w_Call, k_Call, w_CallF, k_CallF, w_CallN, k_CallN, k_New, k_AddN1, w_Un, k_Un, w_Sl, k_Sl1, k_Sl2, k_Sl3, w_No, w_So, k_So, w_iSeq, k_Items, w_Range1, w_Range2, k_Rng1, k_Rng2, w_iEnum, k_Enum, w_Comp, k_Comp, k_AsL, w_TupRg, w_LstRg, k_TupRg, k_LstRg, w_Rev, k_Rev, rev_tup, rev_lst, k_Di1, k_PT1, k_PT2, w_Nil, w_Nop, w_Fl, w_Seq, k_Seqn, k_Seqr, k_Seqb, k_Seqc, w_Expr, k_Drop, w_Ret, k_Ret, w_Set, k_Set, w_Asg, k_Asg1, k_Nx, w_If, k_Ift, k_Iff, w_For, k_For, k_Put1, k_Put2, w_Fun, w_Fun0, k_Funn, k_Funr, w_newK, w_newT, asB_bl, gN, gTupD, gsCons, gsNil, wipeE, itemsOf, seqItems, len_str, add_ii, sub_ii, neg_i, lt_ii, le_ii, gt_ii, ge_ii, eq_ii, ne_ii, eq_ss, ne_ss, isnot_bb, is_bb, is_non, isnot_non, isNonD, ix_tupD, ix_lstD, ix_fzD, at_lit0, at_lit1, at_lit2, at_lit3, len_fz, len_lst, len_tup, List.map_cons, List.map_nil, List.length_cons, List.length_nil, List.getElem?_cons_zero, List.getElem?_cons_succ, List.set_cons_zero, List.set_cons_succ, List.cons_append, List.nil_append, List.replicate_succ, List.replicate_zero, Nat.reduceSub, Nat.reduceAdd, Nat.reduceLeDiff, if_true, if_false, Bool.false_eq_true, Bool.true_eq_false, Bool.not_true, Bool.not_false, Option.bind_some, Option.map_some, Nat.zero_add, ite_true, ite_false, Int.cast_ofNat_Int, Int.natCast_zero, Int.natCast_one, Int.reduceLT, Int.reduceLE, Int.reduceEq, Int.reduceAdd, Int.reduceSub, Int.reduceNeg, decide_true, decide_false, true_and, and_true, le_size, add_ll, add_tt, tuple_lst, tuple_tup, list_tup, list_lst, sl_tup, sl_lst, ii_non_int, ii_non_bool, ii_non_str, ii_non_tuple, ii_non_list, ii_non_dict, ii_bl_int, ii_bl_bool, ii_bl_str, ii_bl_tuple, ii_bl_list, ii_bl_dict, ii_int_int, ii_int_bool, ii_int_str, ii_int_tuple, ii_int_list, ii_int_dict, ii_str_int, ii_str_bool, ii_str_str, ii_str_tuple, ii_str_list, ii_str_dict, ii_tup_int, ii_tup_bool, ii_tup_str, ii_tup_tuple, ii_tup_list, ii_tup_dict, ii_lst_int, ii_lst_bool, ii_lst_str, ii_lst_tuple, ii_lst_list, ii_lst_dict, ii_fz_int, ii_fz_bool, ii_fz_str, ii_fz_tuple, ii_fz_list, ii_fz_dict, hadd]
        refine ⟨i + 1, _, _, _, er, hi, rfl, ?_, ?_⟩
        · rw [List.length_append, List.length_map, Nat.pow_succ]; omega
        · have := sub_step (lim := fun _ => True) (fun _ _ => trivial) hm (mm := nss) (fun ns => by simp) (hp.mpr c0)
          rw [show ((i + 1 : Nat) : Int) = (i : Int) + 1 by omega]
          exact this
    · simp only [wps, w_C, w_Var, k_Var, w_Bin, k_Bin1, k_Bin2, w_Tst, k_B, w_Chain, k_Ch1, k_Ch2, k_Ch3t, k_Ch3f, k_Ch4, w_And, w_Or, w_Not, k_Andt, k_Andf, k_Ort, k_Orf, k_Not, w_bAnd, w_bOr, w_bNot, w_bYes, k_bAndt, k_bAndf, k_bOrt, k_bOrf, k_bNot, w_dIf, k_dIft, k_dIff, w_aNil, w_aCons, k_Cons1, k_Cons2, w_Tup, w_Lst, w_Cell, k_Tup, k_Lst, k_Cell, w_Call, k_Call, w_CallF, k_CallF, w_CallN, k_CallN, k_New, k_AddN1, w_Un, k_Un, w_Sl, k_Sl1, k_Sl2, k_Sl3, w_No, w_So, k_So, w_iSeq, k_Items, w_Range1, w_Range2, k_Rng1, k_Rng2, w_iEnum, k_Enum, w_Comp, k_Comp, k_AsL, w_TupRg, w_LstRg, k_TupRg, k_LstRg, w_Rev, k_Rev, rev_tup, rev_lst, k_Di1, k_PT1, k_PT2, w_Nil, w_Nop, w_Fl, w_Seq, k_Seqn, k_Seqr, k_Seqb, k_Seqc, w_Expr, k_Drop, w_Ret, k_Ret, w_Set, k_Set, w_Asg, k_Asg1, k_Nx, w_If, k_Ift, k_Iff, w_For, k_For, k_Put1, k_Put2, w_Fun, w_Fun0, k_Funn, k_Funr, w_newK, w_newT, asB_bl, gN, gTupD, gsCons, gsNil, wipeE, itemsOf, seqItems, len_str, add_ii, sub_ii, neg_i, lt_ii, le_ii, gt_ii, ge_ii, eq_ii, ne_ii, eq_ss, ne_ss, isnot_bb, is_bb, is_non, isnot_non, isNonD, ix_tupD, ix_lstD, ix_fzD, at_lit0, at_lit1, at_lit2, at_lit3, len_fz, len_lst, len_tup, List.map_cons, List.map_nil, List.length_cons, List.length_nil, List.getElem?_cons_zero, List.getElem?_cons_succ, List.set_cons_zero, List.set_cons_succ, List.cons_append, List.nil_append, List.replicate_succ, List.replicate_zero, Nat.reduceSub, Nat.reduceAdd, Nat.reduceLeDiff, if_true, if_false, Bool.false_eq_true, Bool.true_eq_false, Bool.not_true, Bool.not_false, Option.bind_some, Option.map_some, Nat.zero_add, ite_true, ite_false, Int.cast_ofNat_Int, Int.natCast_zero, Int.natCast_one, Int.reduceLT, Int.reduceLE, Int.reduceEq, Int.reduceAdd, Int.reduceSub, Int.reduceNeg, decide_true, decide_false, true_and, and_true, le_size, add_ll, add_tt, tuple_lst, tuple_tup, list_tup, list_lst, sl_tup, sl_lst, ii_non_int, ii_non_bool, ii_non_str, ii_non_tuple, ii_non_list, ii_non_dict, ii_bl_int, ii_bl_bool, ii_bl_str, ii_bl_tuple, ii_bl_list, ii_bl_dict, ii_int_int, ii_int_bool, ii_int_str, ii_int_tuple, ii_int_list, ii_int_dict, ii_str_int, ii_str_bool, ii_str_str, ii_str_tuple, ii_str_list, ii_str_dict, ii_tup_int, ii_tup_bool, ii_tup_str, ii_tup_tuple, ii_tup_list, ii_tup_dict, ii_lst_int, ii_lst_bool, ii_lst_str, ii_lst_tuple, ii_lst_list, ii_lst_dict, ii_fz_int, ii_fz_bool, ii_fz_str, ii_fz_tuple, ii_fz_list, ii_fz_dict]
      refine ⟨i + 1, nss, _, _, er, hi, rfl, ?_, ?_⟩
      · rw [Nat.pow_succ]; omega
      · rw [show ((i + 1 : Nat) : Int) = (i : Int) + 1 by omega]
        exact sub_skip hm fun z => c0 (hp.mp z)
  · obtain ⟨i, nss, e3, e4, e1, e2, e, eT, hn, hm⟩ := hI
    have hi : i = cs.length := by
      rcases Nat.lt_or_ge i cs.length with z | z
      · rw [show cs.length - i = (cs.length - (i + 1)) + 1 by omega, rng_succ] at e1; cases e1
      · omega
    subst e eT
    have h32 := pow5 (show i ≤ cs.length by omega) hl
    simp only [wps, w_C, w_Var, k_Var, w_Bin, k_Bin1, k_Bin2, w_Tst, k_B, w_Chain, k_Ch1, k_Ch2, k_Ch3t, k_Ch3f, k_Ch4, w_And, w_Or, w_Not, k_Andt, k_Andf, k_Ort, k_Orf, k_Not, w_bAnd, w_bOr, w_bNot, w_bYes, k_bAndt, k_bAndf, k_bOrt, k_bOrf, k_bNot, w_dIf, k_dIft, k_dIff, w_aNil, w_aCons, k_Cons1, k_Cons2, w_Tup, w_Lst, w_Cell, k_Tup, k_Lst, k_Cell, w_Call, k_Call, w_CallF, k_CallF, w_CallN, k_CallN, k_New, k_AddN1, w_Un, k_Un, w_Sl, k_Sl1, k_Sl2, k_Sl3, w_No, w_So, k_So, w_iSeq, k_Items, w_Range1, w_Range2, k_Rng1, k_Rng2, w_iEnum, k_Enum, w_Comp, k_Comp, k_AsL, w_TupRg, w_LstRg, k_TupRg, k_LstRg, w_Rev, k_Rev, rev_tup, rev_lst, k_Di1, k_PT1, k_PT2, w_Nil, w_Nop, w_Fl, w_Seq, k_Seqn, k_Seqr, k_Seqb, k_Seqc, w_Expr, k_Drop, w_Ret, k_Ret, w_Set, k_Set, w_Asg, k_Asg1, k_Nx, w_If, k_Ift, k_Iff, w_For, k_For, k_Put1, k_Put2, w_Fun, w_Fun0, k_Funn, k_Funr, w_newK, w_newT, asB_bl, gN, gTupD, gsCons, gsNil, wipeE, itemsOf, seqItems, len_str, add_ii, sub_ii, neg_i, lt_ii, le_ii, gt_ii, ge_ii, eq_ii, ne_ii, eq_ss, ne_ss, isnot_bb, is_bb, is_non, isnot_non, isNonD, ix_tupD, ix_lstD, ix_fzD, at_lit0, at_lit1, at_lit2, at_lit3, len_fz, len_lst, len_tup, List.map_cons, List.map_nil, List.length_cons, List.length_nil, List.getElem?_cons_zero, List.getElem?_cons_succ, List.set_cons_zero, List.set_cons_succ, List.cons_append, List.nil_append, List.replicate_succ, List.replicate_zero, Nat.reduceSub, Nat.reduceAdd, Nat.reduceLeDiff, if_true, if_false, Bool.false_eq_true, Bool.true_eq_false, Bool.not_true, Bool.not_false, Option.bind_some, Option.map_some, Nat.zero_add, ite_true, ite_false, Int.cast_ofNat_Int, Int.natCast_zero, Int.natCast_one, Int.reduceLT, Int.reduceLE, Int.reduceEq, Int.reduceAdd, Int.reduceSub, Int.reduceNeg, decide_true, decide_false, true_and, and_true, le_size, add_ll, add_tt, tuple_lst, tuple_tup, list_tup, list_lst, sl_tup, sl_lst, ii_non_int, ii_non_bool, ii_non_str, ii_non_tuple, ii_non_list, ii_non_dict, ii_bl_int, ii_bl_bool, ii_bl_str, ii_bl_tuple, ii_bl_list, ii_bl_dict, ii_int_int, ii_int_bool, ii_int_str, ii_int_tuple, ii_int_list, ii_int_dict, ii_str_int, ii_str_bool, ii_str_str, ii_str_tuple, ii_str_list, ii_str_dict, ii_tup_int, ii_tup_bool, ii_tup_str, ii_tup_tuple, ii_tup_list, ii_tup_dict, ii_lst_int, ii_lst_bool, ii_lst_str, ii_lst_tuple, ii_lst_list, ii_lst_dict, ii_fz_int, ii_fz_bool, ii_fz_str, ii_fz_tuple, ii_fz_list, ii_fz_dict]
    refine compGo_filter (fun d => decide (lenD d = k)) id (by rw [List.length_map, sizeLine_eq]; omega) (fun d hd => ⟨_, rfl, ?_, fun _ => ?_⟩) ?_
    · obtain ⟨ns, hns, ed⟩ := List.mem_map.mp hd
      subst ed
      have hlen : ∀ U : Sto, oLen U [tupI ns] = some (.int (lenD (tupI ns))) := fun U => rfl
      simp only [wps, w_C, w_Var, k_Var, w_Bin, k_Bin1, k_Bin2, w_Tst, k_B, w_Chain, k_Ch1, k_Ch2, k_Ch3t, k_Ch3f, k_Ch4, w_And, w_Or, w_Not, k_Andt, k_Andf, k_Ort, k_Orf, k_Not, w_bAnd, w_bOr, w_bNot, w_bYes, k_bAndt, k_bAndf, k_bOrt, k_bOrf, k_bNot, w_dIf, k_dIft, k_dIff, w_aNil, w_aCons, k_Cons1, k_Cons2, w_Tup, w_Lst, w_Cell, k_Tup, k_Lst, k_Cell, w_Call, k_Call, w_CallF, k_CallF, w_CallN, k_CallN, k_New, k_AddN1, w_Un, k_Un, w_Sl, k_Sl1, k_Sl2, k_Sl3, w_No, w_So, k_So, w_iSeq, k_Items, w_Range1, w_Range2, k_Rng1, k_Rng2, w_iEnum, k_Enum, w_Comp, k_Comp, k_AsL, w_TupRg, w_LstRg, k_TupRg, k_LstRg, w_Rev, k_Rev, rev_tup, rev_lst, k_Di1, k_PT1, k_PT2, w_Nil, w_Nop, w_Fl, w_Seq, k_Seqn, k_Seqr, k_Seqb, k_Seqc, w_Expr, k_Drop, w_Ret, k_Ret, w_Set, k_Set, w_Asg, k_Asg1, k_Nx, w_If, k_Ift, k_Iff, w_For, k_For, k_Put1, k_Put2, w_Fun, w_Fun0, k_Funn, k_Funr, w_newK, w_newT, asB_bl, gN, gTupD, gsCons, gsNil, wipeE, itemsOf, seqItems, len_str, add_ii, sub_ii, neg_i, lt_ii, le_ii, gt_ii, ge_ii, eq_ii, ne_ii, eq_ss, ne_ss, isnot_bb, is_bb, is_non, isnot_non, isNonD, ix_tupD, ix_lstD, ix_fzD, at_lit0, at_lit1, at_lit2, at_lit3, len_fz, len_lst, len_tup, List.map_cons, List.map_nil, List.length_cons, List.length_nil, List.getElem?_cons_zero, List.getElem?_cons_succ, List.set_cons_zero, List.set_cons_succ, List.cons_append, List.nil_append, List.replicate_succ, List.replicate_zero, Nat.reduceSub, Nat.reduceAdd, Nat.reduceLeDiff, if_true, if_false, Bool.false_eq_true, Bool.true_eq_false, Bool.not_true, Bool.not_false, Option.bind_some, Option.map_some, Nat.zero_add, ite_true, ite_false, Int.cast_ofNat_Int, Int.natCast_zero, Int.natCast_one, Int.reduceLT, Int.reduceLE, Int.reduceEq, Int.reduceAdd, Int.reduceSub, Int.reduceNeg, decide_true, decide_false, true_and, and_true, le_size, add_ll, add_tt, tuple_lst, tuple_tup, list_tup, list_lst, sl_tup, sl_lst, ii_non_int, ii_non_bool, ii_non_str, ii_non_tuple, ii_non_list, ii_non_dict, ii_bl_int, ii_bl_bool, ii_bl_str, ii_bl_tuple, ii_bl_list, ii_bl_dict, ii_int_int, ii_int_bool, ii_int_str, ii_int_tuple, ii_int_list, ii_int_dict, ii_str_int, ii_str_bool, ii_str_str, ii_str_tuple, ii_str_list, ii_str_dict, ii_tup_int, ii_tup_bool, ii_tup_str, ii_tup_tuple, ii_tup_list, ii_tup_dict, ii_lst_int, ii_lst_bool, ii_lst_str, ii_lst_tuple, ii_lst_list, ii_lst_dict, ii_fz_int, ii_fz_bool, ii_fz_str, ii_fz_tuple, ii_fz_list, ii_fz_dict, hlen]
    · simp only [wps, w_C, w_Var, k_Var, w_Bin, k_Bin1, k_Bin2, w_Tst, k_B, w_Chain, k_Ch1, k_Ch2, k_Ch3t, k_Ch3f, k_Ch4, w_And, w_Or, w_Not, k_Andt, k_Andf, k_Ort, k_Orf, k_Not, w_bAnd, w_bOr, w_bNot, w_bYes, k_bAndt, k_bAndf, k_bOrt, k_bOrf, k_bNot, w_dIf, k_dIft, k_dIff, w_aNil, w_aCons, k_Cons1, k_Cons2, w_Tup, w_Lst, w_Cell, k_Tup, k_Lst, k_Cell, w_Call, k_Call, w_CallF, k_CallF, w_CallN, k_CallN, k_New, k_AddN1, w_Un, k_Un, w_Sl, k_Sl1, k_Sl2, k_Sl3, w_No, w_So, k_So, w_iSeq, k_Items, w_Range1, w_Range2, k_Rng1, k_Rng2, w_iEnum, k_Enum, w_Comp, k_Comp, k_AsL, w_TupRg, w_LstRg, k_TupRg, k_LstRg, w_Rev, k_Rev, rev_tup, rev_lst, k_Di1, k_PT1, k_PT2, w_Nil, w_Nop, w_Fl, w_Seq, k_Seqn, k_Seqr, k_Seqb, k_Seqc, w_Expr, k_Drop, w_Ret, k_Ret, w_Set, k_Set, w_Asg, k_Asg1, k_Nx, w_If, k_Ift, k_Iff, w_For, k_For, k_Put1, k_Put2, w_Fun, w_Fun0, k_Funn, k_Funr, w_newK, w_newT, asB_bl, gN, gTupD, gsCons, gsNil, wipeE, itemsOf, seqItems, len_str, add_ii, sub_ii, neg_i, lt_ii, le_ii, gt_ii, ge_ii, eq_ii, ne_ii, eq_ss, ne_ss, isnot_bb, is_bb, is_non, isnot_non, isNonD, ix_tupD, ix_lstD, ix_fzD, at_lit0, at_lit1, at_lit2, at_lit3, len_fz, len_lst, len_tup, List.map_cons, List.map_nil, List.length_cons, List.length_nil, List.getElem?_cons_zero, List.getElem?_cons_succ, List.set_cons_zero, List.set_cons_succ, List.cons_append, List.nil_append, List.replicate_succ, List.replicate_zero, Nat.reduceSub, Nat.reduceAdd, Nat.reduceLeDiff, if_true, if_false, Bool.false_eq_true, Bool.true_eq_false, Bool.not_true, Bool.not_false, Option.bind_some, Option.map_some, Nat.zero_add, ite_true, ite_false, Int.cast_ofNat_Int, Int.natCast_zero, Int.natCast_one, Int.reduceLT, Int.reduceLE, Int.reduceEq, Int.reduceAdd, Int.reduceSub, Int.reduceNeg, decide_true, decide_false, true_and, and_true, le_size, add_ll, add_tt, tuple_lst, tuple_tup, list_tup, list_lst, sl_tup, sl_lst, ii_non_int, ii_non_bool, ii_non_str, ii_non_tuple, ii_non_list, ii_non_dict, ii_bl_int, ii_bl_bool, ii_bl_str, ii_bl_tuple, ii_bl_list, ii_bl_dict, ii_int_int, ii_int_bool, ii_int_str, ii_int_tuple, ii_int_list, ii_int_dict, ii_str_int, ii_str_bool, ii_str_str, ii_str_tuple, ii_str_list, ii_str_dict, ii_tup_int, ii_tup_bool, ii_tup_str, ii_tup_tuple, ii_tup_list, ii_tup_dict, ii_lst_int, ii_lst_bool, ii_lst_str, ii_lst_tuple, ii_lst_list, ii_lst_dict, ii_fz_int, ii_fz_bool, ii_fz_str, ii_fz_tuple, ii_fz_list, ii_fz_dict]; rfl
    · rw [List.map_id, filt_I _ (fun ns => decide ((ns.length : Int) = k)) (fun ns => by rw [lenD_I])]
      have hs : oSorted T [.lst ((nss.filter fun ns => decide ((ns.length : Int) = k)).map tupI)] = some (.lst ((sortT (nss.filter fun ns => decide ((ns.length : Int) = k))).map tupI)) := by
        refine sorted_T (d := k.toNat) (by omega) (fun a ha => ?_) ?_
        · rw [List.mem_filter, decide_eq_true_eq] at ha
          refine okT_iff.mpr ⟨by have := ha.2; omega, fun m hm2 => ?_⟩
          have hb2 := ((hm a).mp ha.1).2.2 m hm2
          exact ⟨hb2.1.1, Int.lt_trans (show m < 1000 by have := hb2.2; omega) (by decide)⟩
        · have := List.length_filter_le (fun ns : List Int => decide ((ns.length : Int) = k)) nss
          omega
      simp only [wps, w_C, w_Var, k_Var, w_Bin, k_Bin1, k_Bin2, w_Tst, k_B, w_Chain, k_Ch1, k_Ch2, k_Ch3t, k_Ch3f, k_Ch4, w_And, w_Or, w_Not, k_Andt, k_Andf, k_Ort, k_Orf, k_Not, w_bAnd, w_bOr, w_bNot, w_bYes, k_bAndt, k_bAndf, k_bOrt, k_bOrf, k_bNot, w_dIf, k_dIft, k_dIff, w_aNil, w_aCons, k_Cons1, k_Cons2, w_Tup, w_Lst, w_Cell, k_Tup, k_Lst, k_Cell, w_Call, k_Call, w_CallF, k_CallF, w_CallN, k_CallN, k_New, k_AddN1, w_Un, k_Un, w_Sl, k_Sl1, k_Sl2, k_Sl3, w_No, w_So, k_So, w_iSeq, k_Items, w_Range1, w_Range2, k_Rng1, k_Rng2, w_iEnum, k_Enum, w_Comp, k_Comp, k_AsL, w_TupRg, w_LstRg, k_TupRg, k_LstRg, w_Rev, k_Rev, rev_tup, rev_lst, k_Di1, k_PT1, k_PT2, w_Nil, w_Nop, w_Fl, w_Seq, k_Seqn, k_Seqr, k_Seqb, k_Seqc, w_Expr, k_Drop, w_Ret, k_Ret, w_Set, k_Set, w_Asg, k_Asg1, k_Nx, w_If, k_Ift, k_Iff, w_For, k_For, k_Put1, k_Put2, w_Fun, w_Fun0, k_Funn, k_Funr, w_newK, w_newT, asB_bl, gN, gTupD, gsCons, gsNil, wipeE, itemsOf, seqItems, len_str, add_ii, sub_ii, neg_i, lt_ii, le_ii, gt_ii, ge_ii, eq_ii, ne_ii, eq_ss, ne_ss, isnot_bb, is_bb, is_non, isnot_non, isNonD, ix_tupD, ix_lstD, ix_fzD, at_lit0, at_lit1, at_lit2, at_lit3, len_fz, len_lst, len_tup, List.map_cons, List.map_nil, List.length_cons, List.length_nil, List.getElem?_cons_zero, List.getElem?_cons_succ, List.set_cons_zero, List.set_cons_succ, List.cons_append, List.nil_append, List.replicate_succ, List.replicate_zero, Nat.reduceSub, Nat.reduceAdd, Nat.reduceLeDiff, if_true, if_false, Bool.false_eq_true, Bool.true_eq_false, Bool.not_true, Bool.not_false, Option.bind_some, Option.map_some, Nat.zero_add, ite_true, ite_false, Int.cast_ofNat_Int, Int.natCast_zero, Int.natCast_one, Int.reduceLT, Int.reduceLE, Int.reduceEq, Int.reduceAdd, Int.reduceSub, Int.reduceNeg, decide_true, decide_false, true_and, and_true, le_size, add_ll, add_tt, tuple_lst, tuple_tup, list_tup, list_lst, sl_tup, sl_lst, ii_non_int, ii_non_bool, ii_non_str, ii_non_tuple, ii_non_list, ii_non_dict, ii_bl_int, ii_bl_bool, ii_bl_str, ii_bl_tuple, ii_bl_list, ii_bl_dict, ii_int_int, ii_int_bool, ii_int_str, ii_int_tuple, ii_int_list, ii_int_dict, ii_str_int, ii_str_bool, ii_str_str, ii_str_tuple, ii_str_list, ii_str_dict, ii_tup_int, ii_tup_bool, ii_tup_str, ii_tup_tuple, ii_tup_list, ii_tup_dict, ii_lst_int, ii_lst_bool, ii_lst_str, ii_lst_tuple, ii_lst_list, ii_lst_dict, ii_fz_int, ii_fz_bool, ii_fz_str, ii_fz_tuple, ii_fz_list, ii_fz_dict, hs]
      refine kk _ (fun ns => ?_) ?_
      · rw [(sortT_perm _).mem_iff, List.mem_filter, decide_eq_true_eq, hm, hi]
        exact sub_grp fun _ _ => trivial
      · rw [(sortT_perm _).length_eq]
        have := List.length_filter_le (fun ns : List Int => decide ((ns.length : Int) = k)) nss
        omega
/-- .. the program's own -/
theorem own_groups_wp {S : Sto} {k : Int} {cs : List Int} {P : D → Sto → Prop} (hk : 1 ≤ k) (hk5 : k ≤ 5) (hl : cs.length ≤ 5) (kk : ∀ nss : List (List Int), (∀ ns, ns ∈ nss ↔ Grp k cs ns) → nss.length ≤ 32 → P (.lst (nss.map tupI)) S) : Wp (f_groups_of [.int k, .tup (cs.map D.int)] S) P := by
  unfold f_groups_of d_groups_of
  simp only [wps, w_C, w_Var, k_Var, w_Bin, k_Bin1, k_Bin2, w_Tst, k_B, w_Chain, k_Ch1, k_Ch2, k_Ch3t, k_Ch3f, k_Ch4, w_And, w_Or, w_Not, k_Andt, k_Andf, k_Ort, k_Orf, k_Not, w_bAnd, w_bOr, w_bNot, w_bYes, k_bAndt, k_bAndf, k_bOrt, k_bOrf, k_bNot, w_dIf, k_dIft, k_dIff, w_aNil, w_aCons, k_Cons1, k_Cons2, w_Tup, w_Lst, w_Cell, k_Tup, k_Lst, k_Cell, w_Call, k_Call, w_CallF, k_CallF, w_CallN, k_CallN, k_New, k_AddN1, w_Un, k_Un, w_Sl, k_Sl1, k_Sl2, k_Sl3, w_No, w_So, k_So, w_iSeq, k_Items, w_Range1, w_Range2, k_Rng1, k_Rng2, w_iEnum, k_Enum, w_Comp, k_Comp, k_AsL, w_TupRg, w_LstRg, k_TupRg, k_LstRg, w_Rev, k_Rev, rev_tup, rev_lst, k_Di1, k_PT1, k_PT2, w_Nil, w_Nop, w_Fl, w_Seq, k_Seqn, k_Seqr, k_Seqb, k_Seqc, w_Expr, k_Drop, w_Ret, k_Ret, w_Set, k_Set, w_Asg, k_Asg1, k_Nx, w_If, k_Ift, k_Iff, w_For, k_For, k_Put1, k_Put2, w_Fun, w_Fun0, k_Funn, k_Funr, w_newK, w_newT, asB_bl, gN, gTupD, gsCons, gsNil, wipeE, itemsOf, seqItems, len_str, add_ii, sub_ii, neg_i, lt_ii, le_ii, gt_ii, ge_ii, eq_ii, ne_ii, eq_ss, ne_ss, isnot_bb, is_bb, is_non, isnot_non, isNonD, ix_tupD, ix_lstD, ix_fzD, at_lit0, at_lit1, at_lit2, at_lit3, len_fz, len_lst, len_tup, List.map_cons, List.map_nil, List.length_cons, List.length_nil, List.getElem?_cons_zero, List.getElem?_cons_succ, List.set_cons_zero, List.set_cons_succ, List.cons_append, List.nil_append, List.replicate_succ, List.replicate_zero, Nat.reduceSub, Nat.reduceAdd, Nat.reduceLeDiff, if_true, if_false, Bool.false_eq_true, Bool.true_eq_false, Bool.not_true, Bool.not_false, Option.bind_some, Option.map_some, Nat.zero_add, ite_true, ite_false, Int.cast_ofNat_Int, Int.natCast_zero, Int.natCast_one, Int.reduceLT, Int.reduceLE, Int.reduceEq, Int.reduceAdd, Int.reduceSub, Int.reduceNeg, decide_true, decide_false, true_and, and_true, le_size, add_ll, add_tt, tuple_lst, tuple_tup, list_tup, list_lst, sl_tup, sl_lst, ii_non_int, ii_non_bool, ii_non_str, ii_non_tuple, ii_non_list, ii_non_dict, ii_bl_int, ii_bl_bool, ii_bl_str, ii_bl_tuple, ii_bl_list, ii_bl_dict, ii_int_int, ii_int_bool, ii_int_str, ii_int_tuple, ii_int_list, ii_int_dict, ii_str_int, ii_str_bool, ii_str_str, ii_str_tuple, ii_str_list, ii_str_dict, ii_tup_int, ii_tup_bool, ii_tup_str, ii_tup_tuple, ii_tup_list, ii_tup_dict, ii_lst_int, ii_lst_bool, ii_lst_str, ii_lst_tuple, ii_lst_list, ii_lst_dict, ii_fz_int, ii_fz_bool, ii_fz_str, ii_fz_tuple, ii_fz_list, ii_fz_dict]
  refine forGo_wp (fun rest env T => ∃ (i : Nat) (nss : List (List Int)) (e3 e4 e5 : Option D), rest = enumL i ((cs.drop i).map D.int) ∧ i ≤ cs.length ∧ env = [some (.int k), some (.tup (cs.map D.int)), some (.lst (nss.map tupI)), e3, e4, e5] ∧ T = S ∧ nss.length ≤ 2 ^ i ∧ ∀ ns, ns ∈ nss ↔ SubL (fun n => (n : Int) ≤ k) cs (i : Int) ns) _ _ _
    ⟨0, [[]], none, none, none, by simp, by omega, rfl, rfl, by decide, sub_nil (by show ((0 : Nat) : Int) ≤ k; omega) cs⟩ (fun d rest env T hI => ?_) fun env T hI => ?_
  · obtain ⟨i, nss, e3, e4, e5, e1, e2, e, eT, hn, hm⟩ := hI
    have hi : i < cs.length := by
      rcases Nat.lt_or_ge i cs.length with z | z
      · exact z
      · rw [List.drop_eq_nil_of_le z] at e1; cases e1
    rw [List.drop_eq_getElem_cons hi] at e1
    obtain ⟨ed, er⟩ := List.cons.inj e1
    subst e ed eT
    refine ⟨_, rfl, ?_⟩
    have hp := pos_at (List.getElem?_eq_getElem hi)
    have h32 := pow5 (show i ≤ cs.length by omega) hl
    simp only [wps, w_C, w_Var, k_Var, w_Bin, k_Bin1, k_Bin2, w_Tst, k_B, w_Chain, k_Ch1, k_Ch2, k_Ch3t, k_Ch3f, k_Ch4, w_And, w_Or, w_Not, k_Andt, k_Andf, k_Ort, k_Orf, k_Not, w_bAnd, w_bOr, w_bNot, w_bYes, k_bAndt, k_bAndf, k_bOrt, k_bOrf, k_bNot, w_dIf, k_dIft, k_dIff, w_aNil, w_aCons, k_Cons1, k_Cons2, w_Tup, w_Lst, w_Cell, k_Tup, k_Lst, k_Cell, w_Call, k_Call, w_CallF, k_CallF, w_CallN, k_CallN, k_New, k_AddN1, w_Un, k_Un, w_Sl, k_Sl1, k_Sl2, k_Sl3, w_No, w_So, k_So, w_iSeq, k_Items, w_Range1, w_Range2, k_Rng1, k_Rng2, w_iEnum, k_Enum, w_Comp, k_Comp, k_AsL, w_TupRg, w_LstRg, k_TupRg, k_LstRg, w_Rev, k_Rev, rev_tup, rev_lst, k_Di1, k_PT1, k_PT2, w_Nil, w_Nop, w_Fl, w_Seq, k_Seqn, k_Seqr, k_Seqb, k_Seqc, w_Expr, k_Drop, w_Ret, k_Ret, w_Set, k_Set, w_Asg, k_Asg1, k_Nx, w_If, k_Ift, k_Iff, w_For, k_For, k_Put1, k_Put2, w_Fun, w_Fun0, k_Funn, k_Funr, w_newK, w_newT, asB_bl, gN, gTupD, gsCons, gsNil, wipeE, itemsOf, seqItems, len_str, add_ii, sub_ii, neg_i, lt_ii, le_ii, gt_ii, ge_ii, eq_ii, ne_ii, eq_ss, ne_ss, isnot_bb, is_bb, is_non, isnot_non, isNonD, ix_tupD, ix_lstD, ix_fzD, at_lit0, at_lit1, at_lit2, at_lit3, len_fz, len_lst, len_tup, List.map_cons, List.map_nil, List.length_cons, List.length_nil, List.getElem?_cons_zero, List.getElem?_cons_succ, List.set_cons_zero, List.set_cons_succ, List.cons_append, List.nil_append, List.replicate_succ, List.replicate_zero, Nat.reduceSub, Nat.reduceAdd, Nat.reduceLeDiff, if_true, if_false, Bool.false_eq_true, Bool.true_eq_false, Bool.not_true, Bool.not_false, Option.bind_some, Option.map_some, Nat.zero_add, ite_true, ite_false, Int.cast_ofNat_Int, Int.natCast_zero, Int.natCast_one, Int.reduceLT, Int.reduceLE, Int.reduceEq, Int.reduceAdd, Int.reduceSub, Int.reduceNeg, decide_true, decide_false, true_and, and_true, le_size, add_ll, add_tt, tuple_lst, tuple_tup, list_tup, list_lst, sl_tup, sl_lst, ii_non_int, ii_non_bool, ii_non_str, ii_non_tuple, ii_non_list, ii_non_dict, ii_bl_int, ii_bl_bool, ii_bl_str, ii_bl_tuple, ii_bl_list, ii_bl_dict, ii_int_int, ii_int_bool, ii_int_str, ii_int_tuple, ii_int_list, ii_int_dict, ii_str_int, ii_str_bool, ii_str_str, ii_str_tuple, ii_str_list, ii_str_dict, ii_tup_int, ii_tup_bool, ii_tup_str, ii_tup_tuple, ii_tup_list, ii_tup_dict, ii_lst_int, ii_lst_bool, ii_lst_str, ii_lst_tuple, ii_lst_list, ii_lst_dict, ii_fz_int, ii_fz_bool, ii_fz_str, ii_fz_tuple, ii_fz_list, ii_fz_dict]
    refine k_Ifd (fun c0 => ?_) fun c0 => ?_
    · simp only [wps, w_C, w_Var, k_Var, w_Bin, k_Bin1, k_Bin2, w_Tst, k_B, w_Chain, k_Ch1, k_Ch2, k_Ch3t, k_Ch3f, k_Ch4, w_And, w_Or, w_Not, k_Andt, k_Andf, k_Ort, k_Orf, k_Not, w_bAnd, w_bOr, w_bNot, w_bYes, k_bAndt, k_bAndf, k_bOrt, k_bOrf, k_bNot, w_dIf, k_dIft, k_dIff, w_aNil, w_aCons, k_Cons1, k_Cons2, w_Tup, w_Lst, w_Cell, k_Tup, k_Lst, k_Cell, w_Call, k_Call, w_CallF, k_CallF, w_CallN, k_CallN, k_New, k_AddN1, w_Un, k_Un, w_Sl, k_Sl1, k_Sl2, k_Sl3, w_No, w_So, k_So, w_iSeq, k_Items, w_Range1, w_Range2, k_Rng1, k_Rng2, w_iEnum, k_Enum, w_Comp, k_Comp, k_AsL, w_TupRg, w_LstRg, k_TupRg, k_LstRg, w_Rev, k_Rev, rev_tup, rev_lst, k_Di1, k_PT1, k_PT2, w_Nil, w_Nop, w_Fl, w_Seq, k_Seqn, k_Seqr, k_Seqb, k_Seqc, w_Expr, k_Drop, w_Ret, k_Ret, w_Set, k_Set, w_Asg, k_Asg1, k_Nx, w_If, k_Ift, k_Iff, w_For, k_For, k_Put1, k_Put2, w_Fun, w_Fun0, k_Funn, k_Funr, w_newK, w_newT, asB_bl, gN, gTupD, gsCons, gsNil, wipeE, itemsOf, seqItems, len_str, add_ii, sub_ii, neg_i, lt_ii, le_ii, gt_ii, ge_ii, eq_ii, ne_ii, eq_ss, ne_ss, isnot_bb, is_bb, is_non, isnot_non, isNonD, ix_tupD, ix_lstD, ix_fzD, at_lit0, at_lit1, at_lit2, at_lit3, len_fz, len_lst, len_tup, List.map_cons, List.map_nil, List.length_cons, List.length_nil, List.getElem?_cons_zero, List.getElem?_cons_succ, List.set_cons_zero, List.set_cons_succ, List.cons_append, List.nil_append, List.replicate_succ, List.replicate_zero, Nat.reduceSub, Nat.reduceAdd, Nat.reduceLeDiff, if_true, if_false, Bool.false_eq_true, Bool.true_eq_false, Bool.not_true, Bool.not_false, Option.bind_some, Option.map_some, Nat.zero_add, ite_true, ite_false, Int.cast_ofNat_Int, Int.natCast_zero, Int.natCast_one, Int.reduceLT, Int.reduceLE, Int.reduceEq, Int.reduceAdd, Int.reduceSub, Int.reduceNeg, decide_true, decide_false, true_and, and_true, le_size, add_ll, add_tt, tuple_lst, tuple_tup, list_tup, list_lst, sl_tup, sl_lst, ii_non_int, ii_non_bool, ii_non_str, ii_non_tuple, ii_non_list, ii_non_dict, ii_bl_int, ii_bl_bool, ii_bl_str, ii_bl_tuple, ii_bl_list, ii_bl_dict, ii_int_int, ii_int_bool, ii_int_str, ii_int_tuple, ii_int_list, ii_int_dict, ii_str_int, ii_str_bool, ii_str_str, ii_str_tuple, ii_str_list, ii_str_dict, ii_tup_int, ii_tup_bool, ii_tup_str, ii_tup_tuple, ii_tup_list, ii_tup_dict, ii_lst_int, ii_lst_bool, ii_lst_str, ii_lst_tuple, ii_lst_list, ii_lst_dict, ii_fz_int, ii_fz_bool, ii_fz_str, ii_fz_tuple, ii_fz_list, ii_fz_dict]
      refine compGo_filter (fun d => decide (lenD d < k)) (snocD (i : Int)) (by rw [List.length_map, sizeLine_eq]; omega) (fun d hd => ⟨_, rfl, ?_, fun hd2 => ?_⟩) ?_
      · obtain ⟨ns, hns, ed⟩ := List.mem_map.mp hd
        subst ed
        have hlen : ∀ U : Sto, oLen U [tupI ns] = some (.int (lenD (tupI ns))) := fun U => rfl
        simp only [wps, w_C, w_Var, k_Var, w_Bin, k_Bin1, k_Bin2, w_Tst, k_B, w_Chain, k_Ch1, k_Ch2, k_Ch3t, k_Ch3f, k_Ch4, w_And, w_Or, w_Not, k_Andt, k_Andf, k_Ort, k_Orf, k_Not, w_bAnd, w_bOr, w_bNot, w_bYes, k_bAndt, k_bAndf, k_bOrt, k_bOrf, k_bNot, w_dIf, k_dIft, k_dIff, w_aNil, w_aCons, k_Cons1, k_Cons2, w_Tup, w_Lst, w_Cell, k_Tup, k_Lst, k_Cell, w_Call, k_Call, w_CallF, k_CallF, w_CallN, k_CallN, k_New, k_AddN1, w_Un, k_Un, w_Sl, k_Sl1, k_Sl2, k_Sl3, w_No, w_So, k_So, w_iSeq, k_Items, w_Range1, w_Range2, k_Rng1, k_Rng2, w_iEnum, k_Enum, w_Comp, k_Comp, k_AsL, w_TupRg, w_LstRg, k_TupRg, k_LstRg, w_Rev, k_Rev, rev_tup, rev_lst, k_Di1, k_PT1, k_PT2, w_Nil, w_Nop, w_Fl, w_Seq, k_Seqn, k_Seqr, k_Seqb, k_Seqc, w_Expr, k_Drop, w_Ret, k_Ret, w_Set, k_Set, w_Asg, k_Asg1, k_Nx, w_If, k_Ift, k_Iff, w_For, k_For, k_Put1, k_Put2, w_Fun, w_Fun0, k_Funn, k_Funr, w_newK, w_newT, asB_bl, gN, gTupD, gsCons, gsNil, wipeE, itemsOf, seqItems, len_str, add_ii, sub_ii, neg_i, lt_ii, le_ii, gt_ii, ge_ii, eq_ii, ne_ii, eq_ss, ne_ss, isnot_bb, is_bb, is_non, isnot_non, isNonD, ix_tupD, ix_lstD, ix_fzD, at_lit0, at_lit1, at_lit2, at_lit3, len_fz, len_lst, len_tup, List.map_cons, List.map_nil, List.length_cons, List.length_nil, List.getElem?_cons_zero, List.getElem?_cons_succ, List.set_cons_zero, List.set_cons_succ, List.cons_append, List.nil_append, List.replicate_succ, List.replicate_zero, Nat.reduceSub, Nat.reduceAdd, Nat.reduceLeDiff, if_true, if_false, Bool.false_eq_true, Bool.true_eq_false, Bool.not_true, Bool.not_false, Option.bind_some, Option.map_some, Nat.zero_add, ite_true, ite_false, Int.cast_ofNat_Int, Int.natCast_zero, Int.natCast_one, Int.reduceLT, Int.reduceLE, Int.reduceEq, Int.reduceAdd, Int.reduceSub, Int.reduceNeg, decide_true, decide_false, true_and, and_true, le_size, add_ll, add_tt, tuple_lst, tuple_tup, list_tup, list_lst, sl_tup, sl_lst, ii_non_int, ii_non_bool, ii_non_str, ii_non_tuple, ii_non_list, ii_non_dict, ii_bl_int, ii_bl_bool, ii_bl_str, ii_bl_tuple, ii_bl_list, ii_bl_dict, ii_int_int, ii_int_bool, ii_int_str, ii_int_tuple, ii_int_list, ii_int_dict, ii_str_int, ii_str_bool, ii_str_str, ii_str_tuple, ii_str_list, ii_str_dict, ii_tup_int, ii_tup_bool, ii_tup_str, ii_tup_tuple, ii_tup_list, ii_tup_dict, ii_lst_int, ii_lst_bool, ii_lst_str, ii_lst_tuple, ii_lst_list, ii_lst_dict, ii_fz_int, ii_fz_bool, ii_fz_str, ii_fz_tuple, ii_fz_list, ii_fz_dict, hlen]
      · obtain ⟨ns, hns, ed⟩ := List.mem_map.mp hd
        subst ed
        have hsh := ((hm ns).mp hns)
        have hadd : oAdd T (tupI ns) (.tup [.int (i : Int)]) = some (snocD (i : Int) (tupI ns)) := add_tt (by
          rw [List.length_map]
          show ns.length + 1 ≤ 1000
          have := hsh.2.1
          omega)
        simp only [wps, w_C, w_Var, k_Var, w_Bin, k_Bin1, k_Bin2, w_Tst, k_B, w_Chain, k_Ch1, k_Ch2, k_Ch3t, k_Ch3f, k_Ch4, w_And, w_Or, w_Not, k_Andt, k_Andf, k_Ort, k_Orf, k_Not, w_bAnd, w_bOr, w_bNot, w_bYes, k_bAndt, k_bAndf, k_bOrt, k_bOrf, k_bNot, w_dIf, k_dIft, k_dIff, w_aNil, w_aCons, k_Cons1, k_Cons2, w_Tup, w_Lst, w_Cell, k_Tup, k_Lst, k_Cell, w_Call, k_Call, w_CallF, k_CallF, w_CallN, k_CallN, k_New, k_AddN1, w_Un, k_Un, w_Sl, k_Sl1, k_Sl2, k_Sl3, w_No, w_So, k_So, w_iSeq, k_Items, w_Range1, w_Range2, k_Rng1, k_Rng2, w_iEnum, k_Enum, w_Comp, k_Comp, k_AsL, w_TupRg, w_LstRg, k_TupRg, k_LstRg, w_Rev, k_Rev, rev_tup, rev_lst, k_Di1, k_PT1, k_PT2, w_Nil, w_Nop, w_Fl, w_Seq, k_Seqn, k_Seqr, k_Seqb, k_Seqc, w_Expr, k_Drop, w_Ret, k_Ret, w_Set, k_Set, w_Asg, k_Asg1, k_Nx, w_If, k_Ift, k_Iff, w_For, k_For, k_Put1, k_Put2, w_Fun, w_Fun0, k_Funn, k_Funr, w_newK, w_newT, asB_bl, gN, gTupD, gsCons, gsNil, wipeE, itemsOf, seqItems, len_str, add_ii, sub_ii, neg_i, lt_ii, le_ii, gt_ii, ge_ii, eq_ii, ne_ii, eq_ss, ne_ss, isnot_bb, is_bb, is_non, isnot_non, isNonD, ix_tupD, ix_lstD, ix_fzD, at_lit0, at_lit1, at_lit2, at_lit3, len_fz, len_lst, len_tup, List.map_cons, List.map_nil, List.length_cons, List.length_nil, List.getElem?_cons_zero, List.getElem?_cons_succ, List.set_cons_zero, List.set_cons_succ, List.cons_append, List.nil_append, List.replicate_succ, List.replicate_zero, Nat.reduceSub, Nat.reduceAdd, Nat.reduceLeDiff, if_true, if_false, Bool.false_eq_true, Bool.true_eq_false, Bool.not_true, Bool.not_false, Option.bind_some, Option.map_some, Nat.zero_add, ite_true, ite_false, Int.cast_ofNat_Int, Int.natCast_zero, Int.natCast_one, Int.reduceLT, Int.reduceLE, Int.reduceEq, Int.reduceAdd, Int.reduceSub, Int.reduceNeg, decide_true, decide_false, true_and, and_true, le_size, add_ll, add_tt, tuple_lst, tuple_tup, list_tup, list_lst, sl_tup, sl_lst, ii_non_int, ii_non_bool, ii_non_str, ii_non_tuple, ii_non_list, ii_non_dict, ii_bl_int, ii_bl_bool, ii_bl_str, ii_bl_tuple, ii_bl_list, ii_bl_dict, ii_int_int, ii_int_bool, ii_int_str, ii_int_tuple, ii_int_list, ii_int_dict, ii_str_int, ii_str_bool, ii_str_str, ii_str_tuple, ii_str_list, ii_str_dict, ii_tup_int, ii_tup_bool, ii_tup_str, ii_tup_tuple, ii_tup_list, ii_tup_dict, ii_lst_int, ii_lst_bool, ii_lst_str, ii_lst_tuple, ii_lst_list, ii_lst_dict, ii_fz_int, ii_fz_bool, ii_fz_str, ii_fz_tuple, ii_fz_list, ii_fz_dict, hadd]
      · rw [filt_I _ (fun ns => decide ((ns.length : Int) < k)) (fun ns => by rw [lenD_I]), mapTup_map (· ++ [(i : Int)]) (snocD (i : Int)) (snocD_I _)]
        have hfl := List.length_filter_le (fun ns : List Int => decide ((ns.length : Int) < k)) nss
        have hadd : oAdd T (.lst (nss.map tupI)) (.lst (((nss.filter fun ns => decide ((ns.length : Int) < k)).map (· ++ [(i : Int)])).map tupI)) = some (.lst ((nss ++ (nss.filter fun ns => decide ((ns.length : Int) < k)).map (· ++ [(i : Int)])).map tupI)) := by
          rw [add_ll (by rw [List.length_map, List.length_map, List.length_map]; omega), List.map_append]
        simp only [wps, w_C, w_Var, k_Var, w_Bin, k_Bin1, k_Bin2, w_Tst, k_B, w_Chain, k_Ch1, k_Ch2, k_Ch3t, k_Ch3f, k_Ch4, w_And, w_Or, w_Not, k_Andt, k_Andf, k_Ort, k_Orf, k_Not, w_bAnd, w_bOr, w_bNot, w_bYes, k_bAndt, k_bAndf, k_bOrt, k_bOrf, k_bNot, w_dIf, k_dIft, k_dIff, w_aNil, w_aCons, k_Cons1, k_Cons2, w_Tup, w_Lst, w_Cell, k_Tup, k_Lst, k_Cell, w_Call, k_Call, w_CallF, k_CallF, w_CallN, k_CallN, k_New, k_AddN1, w_Un, k_Un, w_Sl, k_Sl1, k_Sl2, k_Sl3, w_No, w_So, k_So, w_iSeq, k_Items, w_Range1, w_Range2, k_Rng1, k_Rng2, w_iEnum, k_Enum, w_Comp, k_Comp, k_AsL, w_TupRg, w_LstRg, k_TupRg, k_LstRg, w_Rev, k_Rev, rev_tup, rev_lst, k_Di1, k_PT1, k_PT2, w_Nil, w_Nop, w_Fl, w_Seq, k_Seqn, k_Seqr, k_Seqb, k_Seqc, w_Expr, k_Drop, w_Ret, k_Ret, w_Set, k_Set, w_Asg, k_Asg1, k_Nx, w_If, k_Ift, k_Iff, w_For, k_For, k_Put1, k_Put2, w_Fun, w_Fun0, k_Funn, k_Funr, w_newK, w_newT, asB_bl, gN, gTupD, gsCons, gsNil, wipeE, itemsOf, seqItems, len_str, add_ii, sub_ii, neg_i, lt_ii, le_ii, gt_ii, ge_ii, eq_ii, ne_ii, eq_ss, ne_ss, isnot_bb, is_bb, is_non, isnot_non, isNonD, ix_tupD, ix_lstD, ix_fzD, at_lit0, at_lit1, at_lit2, at_lit3, len_fz, len_lst, len_tup, List.map_cons, List.map_nil, List.length_cons, List.length_nil, List.getElem?_cons_zero, List.getElem?_cons_succ, List.set_cons_zero, List.set_cons_succ, List.cons_append, List.nil_append, List.replicate_succ, List.replicate_zero, Nat.reduceSub, Nat.reduceAdd, Nat.reduceLeDiff, if_true, if_false, Bool.false_eq_true, Bool.true_eq_false, Bool.not_true, Bool.not_false, Option.bind_some, Option.map_some, Nat.zero_add, ite_true, ite_false, Int.cast_ofNat_Int, Int.natCast_zero, Int.natCast_one, Int.reduceLT, Int.reduceLE, Int.reduceEq, Int.reduceAdd, Int.reduceSub, Int.reduceNeg, decide_true, decide_false, true_and, and_true, le_size, add_ll, add_tt, tuple_lst, tuple_tup, list_tup, list_lst, sl_tup, sl_lst, ii_non_int, ii_non_bool, ii_non_str, ii_non_tuple, ii_non_list, ii_non_dict, ii_bl_int, ii_bl_bool, ii_bl_str, ii_bl_tuple, ii_bl_list, ii_bl_dict, ii_int_int, ii_int_bool, ii_int_str, ii_int_tuple, ii_int_list, ii_int_dict, ii_str_int, ii_str_bool, ii_str_str, ii_str_tuple, ii_str_list, ii_str_dict, ii_tup_int, ii_tup_bool, ii_tup_str, ii_tup_tuple, ii_tup_list, ii_tup_dict, ii_lst_int, ii_lst_bool, ii_lst_str, ii_lst_tuple, ii_lst_list, ii_lst_dict, ii_fz_int, ii_fz_bool, ii_fz_str, ii_fz_tuple, ii_fz_list, ii_fz_dict, hadd]
        refine ⟨i + 1, _, _, _, _, er, hi, rfl, ?_, ?_⟩
        · rw [List.length_append, List.length_map, Nat.pow_succ]; omega
        · have := sub_step (lim := fun n : Nat => (n : Int) ≤ k) (fun n h => by
            have h' : ((n + 1 : Nat) : Int) ≤ k := h
            show (n : Int) ≤ k
            omega) hm (mm := nss.filter fun ns => decide ((ns.length : Int) < k)) (fun ns => by
            rw [List.mem_filter, decide_eq_true_eq]
            refine and_congr Iff.rfl ?_
            show (ns.length : Int) < k ↔ ((ns.length + 1 : Nat) : Int) ≤ k
            omega) (hp.mpr c0)
          rw [show ((i + 1 : Nat) : Int) = (i : Int) + 1 by omega]
          exact this
    · simp only [wps, w_C, w_Var, k_Var, w_Bin, k_Bin1, k_Bin2, w_Tst, k_B, w_Chain, k_Ch1, k_Ch2, k_Ch3t, k_Ch3f, k_Ch4, w_And, w_Or, w_Not, k_Andt, k_Andf, k_Ort, k_Orf, k_Not, w_bAnd, w_bOr, w_bNot, w_bYes, k_bAndt, k_bAndf, k_bOrt, k_bOrf, k_bNot, w_dIf, k_dIft, k_dIff, w_aNil, w_aCons, k_Cons1, k_Cons2, w_Tup, w_Lst, w_Cell, k_Tup, k_Lst, k_Cell, w_Call, k_Call, w_CallF, k_CallF, w_CallN, k_CallN, k_New, k_AddN1, w_Un, k_Un, w_Sl, k_Sl1, k_Sl2, k_Sl3, w_No, w_So, k_So, w_iSeq, k_Items, w_Range1, w_Range2, k_Rng1, k_Rng2, w_iEnum, k_Enum, w_Comp, k_Comp, k_AsL, w_TupRg, w_LstRg, k_TupRg, k_LstRg, w_Rev, k_Rev, rev_tup, rev_lst, k_Di1, k_PT1, k_PT2, w_Nil, w_Nop, w_Fl, w_Seq, k_Seqn, k_Seqr, k_Seqb, k_Seqc, w_Expr, k_Drop, w_Ret, k_Ret, w_Set, k_Set, w_Asg, k_Asg1, k_Nx, w_If, k_Ift, k_Iff, w_For, k_For, k_Put1, k_Put2, w_Fun, w_Fun0, k_Funn, k_Funr, w_newK, w_newT, asB_bl, gN, gTupD, gsCons, gsNil, wipeE, itemsOf, seqItems, len_str, add_ii, sub_ii, neg_i, lt_ii, le_ii, gt_ii, ge_ii, eq_ii, ne_ii, eq_ss, ne_ss, isnot_bb, is_bb, is_non, isnot_non, isNonD, ix_tupD, ix_lstD, ix_fzD, at_lit0, at_lit1, at_lit2, at_lit3, len_fz, len_lst, len_tup, List.map_cons, List.map_nil, List.length_cons, List.length_nil, List.getElem?_cons_zero, List.getElem?_cons_succ, List.set_cons_zero, List.set_cons_succ, List.cons_append, List.nil_append, List.replicate_succ, List.replicate_zero, Nat.reduceSub, Nat.reduceAdd, Nat.reduceLeDiff, if_true, if_false, Bool.false_eq_true, Bool.true_eq_false, Bool.not_true, Bool.not_false, Option.bind_some, Option.map_some, Nat.zero_add, ite_true, ite_false, Int.cast_ofNat_Int, Int.natCast_zero, Int.natCast_one, Int.reduceLT, Int.reduceLE, Int.reduceEq, Int.reduceAdd, Int.reduceSub, Int.reduceNeg, decide_true, decide_false, true_and, and_true, le_size, add_ll, add_tt, tuple_lst, tuple_tup, list_tup, list_lst, sl_tup, sl_lst, ii_non_int, ii_non_bool, ii_non_str, ii_non_tuple, ii_non_list, ii_non_dict, ii_bl_int, ii_bl_bool, ii_bl_str, ii_bl_tuple, ii_bl_list, ii_bl_dict, ii_int_int, ii_int_bool, ii_int_str, ii_int_tuple, ii_int_list, ii_int_dict, ii_str_int, ii_str_bool, ii_str_str, ii_str_tuple, ii_str_list, ii_str_dict, ii_tup_int, ii_tup_bool, ii_tup_str, ii_tup_tuple, ii_tup_list, ii_tup_dict, ii_lst_int, ii_lst_bool, ii_lst_str, ii_lst_tuple, ii_lst_list, ii_lst_dict, ii_fz_int, ii_fz_bool, ii_fz_str, ii_fz_tuple, ii_fz_list, ii_fz_dict]
      refine ⟨i + 1, nss, _, _, _, er, hi, rfl, ?_, ?_⟩
      · rw [Nat.pow_succ]; omega
      · rw [show ((i + 1 : Nat) : Int) = (i : Int) + 1 by omega]
        exact sub_skip hm fun z => c0 (hp.mp z)
  · obtain ⟨i, nss, e3, e4, e5, e1, e2, e, eT, hn, hm⟩ := hI
    have hi : i = cs.length := by
      rcases Nat.lt_or_ge i cs.length with z | z
      · rw [List.drop_eq_getElem_cons z] at e1; cases e1
      · omega
    subst e eT
    have h32 := pow5 (show i ≤ cs.length by omega) hl
    simp only [wps, w_C, w_Var, k_Var, w_Bin, k_Bin1, k_Bin2, w_Tst, k_B, w_Chain, k_Ch1, k_Ch2, k_Ch3t, k_Ch3f, k_Ch4, w_And, w_Or, w_Not, k_Andt, k_Andf, k_Ort, k_Orf, k_Not, w_bAnd, w_bOr, w_bNot, w_bYes, k_bAndt, k_bAndf, k_bOrt, k_bOrf, k_bNot, w_dIf, k_dIft, k_dIff, w_aNil, w_aCons, k_Cons1, k_Cons2, w_Tup, w_Lst, w_Cell, k_Tup, k_Lst, k_Cell, w_Call, k_Call, w_CallF, k_CallF, w_CallN, k_CallN, k_New, k_AddN1, w_Un, k_Un, w_Sl, k_Sl1, k_Sl2, k_Sl3, w_No, w_So, k_So, w_iSeq, k_Items, w_Range1, w_Range2, k_Rng1, k_Rng2, w_iEnum, k_Enum, w_Comp, k_Comp, k_AsL, w_TupRg, w_LstRg, k_TupRg, k_LstRg, w_Rev, k_Rev, rev_tup, rev_lst, k_Di1, k_PT1, k_PT2, w_Nil, w_Nop, w_Fl, w_Seq, k_Seqn, k_Seqr, k_Seqb, k_Seqc, w_Expr, k_Drop, w_Ret, k_Ret, w_Set, k_Set, w_Asg, k_Asg1, k_Nx, w_If, k_Ift, k_Iff, w_For, k_For, k_Put1, k_Put2, w_Fun, w_Fun0, k_Funn, k_Funr, w_newK, w_newT, asB_bl, gN, gTupD, gsCons, gsNil, wipeE, itemsOf, seqItems, len_str, add_ii, sub_ii, neg_i, lt_ii, le_ii, gt_ii, ge_ii, eq_ii, ne_ii, eq_ss, ne_ss, isnot_bb, is_bb, is_non, isnot_non, isNonD, ix_tupD, ix_lstD, ix_fzD, at_lit0, at_lit1, at_lit2, at_lit3, len_fz, len_lst, len_tup, List.map_cons, List.map_nil, List.length_cons, List.length_nil, List.getElem?_cons_zero, List.getElem?_cons_succ, List.set_cons_zero, List.set_cons_succ, List.cons_append, List.nil_append, List.replicate_succ, List.replicate_zero, Nat.reduceSub, Nat.reduceAdd, Nat.reduceLeDiff, if_true, if_false, Bool.false_eq_true, Bool.true_eq_false, Bool.not_true, Bool.not_false, Option.bind_some, Option.map_some, Nat.zero_add, ite_true, ite_false, Int.cast_ofNat_Int, Int.natCast_zero, Int.natCast_one, Int.reduceLT, Int.reduceLE, Int.reduceEq, Int.reduceAdd, Int.reduceSub, Int.reduceNeg, decide_true, decide_false, true_and, and_true, le_size, add_ll, add_tt, tuple_lst, tuple_tup, list_tup, list_lst, sl_tup, sl_lst, ii_non_int, ii_non_bool, ii_non_str, ii_non_tuple, ii_non_list, ii_non_dict, ii_bl_int, ii_bl_bool, ii_bl_str, ii_bl_tuple, ii_bl_list, ii_bl_dict, ii_int_int, ii_int_bool, ii_int_str, ii_int_tuple, ii_int_list, ii_int_dict, ii_str_int, ii_str_bool, ii_str_str, ii_str_tuple, ii_str_list, ii_str_dict, ii_tup_int, ii_tup_bool, ii_tup_str, ii_tup_tuple, ii_tup_list, ii_tup_dict, ii_lst_int, ii_lst_bool, ii_lst_str, ii_lst_tuple, ii_lst_list, ii_lst_dict, ii_fz_int, ii_fz_bool, ii_fz_str, ii_fz_tuple, ii_fz_list, ii_fz_dict]
    refine compGo_filter (fun d => decide (lenD d = k)) id (by rw [List.length_map, sizeLine_eq]; omega) (fun d hd => ⟨_, rfl, ?_, fun _ => ?_⟩) ?_
    · obtain ⟨ns, hns, ed⟩ := List.mem_map.mp hd
      subst ed
      have hlen : ∀ U : Sto, oLen U [tupI ns] = some (.int (lenD (tupI ns))) := fun U => rfl
      simp only [wps, w_C, w_Var, k_Var, w_Bin, k_Bin1, k_Bin2, w_Tst, k_B, w_Chain, k_Ch1, k_Ch2, k_Ch3t, k_Ch3f, k_Ch4, w_And, w_Or, w_Not, k_Andt, k_Andf, k_Ort, k_Orf, k_Not, w_bAnd, w_bOr, w_bNot, w_bYes, k_bAndt, k_bAndf, k_bOrt, k_bOrf, k_bNot, w_dIf, k_dIft, k_dIff, w_aNil, w_aCons, k_Cons1, k_Cons2, w_Tup, w_Lst, w_Cell, k_Tup, k_Lst, k_Cell, w_Call, k_Call, w_CallF, k_CallF, w_CallN, k_CallN, k_New, k_AddN1, w_Un, k_Un, w_Sl, k_Sl1, k_Sl2, k_Sl3, w_No, w_So, k_So, w_iSeq, k_Items, w_Range1, w_Range2, k_Rng1, k_Rng2, w_iEnum, k_Enum, w_Comp, k_Comp, k_AsL, w_TupRg, w_LstRg, k_TupRg, k_LstRg, w_Rev, k_Rev, rev_tup, rev_lst, k_Di1, k_PT1, k_PT2, w_Nil, w_Nop, w_Fl, w_Seq, k_Seqn, k_Seqr, k_Seqb, k_Seqc, w_Expr, k_Drop, w_Ret, k_Ret, w_Set, k_Set, w_Asg, k_Asg1, k_Nx, w_If, k_Ift, k_Iff, w_For, k_For, k_Put1, k_Put2, w_Fun, w_Fun0, k_Funn, k_Funr, w_newK, w_newT, asB_bl, gN, gTupD, gsCons, gsNil, wipeE, itemsOf, seqItems, len_str, add_ii, sub_ii, neg_i, lt_ii, le_ii, gt_ii, ge_ii, eq_ii, ne_ii, eq_ss, ne_ss, isnot_bb, is_bb, is_non, isnot_non, isNonD, ix_tupD, ix_lstD, ix_fzD, at_lit0, at_lit1, at_lit2, at_lit3, len_fz, len_lst, len_tup, List.map_cons, List.map_nil, List.length_cons, List.length_nil, List.getElem?_cons_zero, List.getElem?_cons_succ, List.set_cons_zero, List.set_cons_succ, List.cons_append, List.nil_append, List.replicate_succ, List.replicate_zero, Nat.reduceSub, Nat.reduceAdd, Nat.reduceLeDiff, if_true, if_false, Bool.false_eq_true, Bool.true_eq_false, Bool.not_true, Bool.not_false, Option.bind_some, Option.map_some, Nat.zero_add, ite_true, ite_false, Int.cast_ofNat_Int, Int.natCast_zero, Int.natCast_one, Int.reduceLT, Int.reduceLE, Int.reduceEq, Int.reduceAdd, Int.reduceSub, Int.reduceNeg, decide_true, decide_false, true_and, and_true, le_size, add_ll, add_tt, tuple_lst, tuple_tup, list_tup, list_lst, sl_tup, sl_lst, ii_non_int, ii_non_bool, ii_non_str, ii_non_tuple, ii_non_list, ii_non_dict, ii_bl_int, ii_bl_bool, ii_bl_str, ii_bl_tuple, ii_bl_list, ii_bl_dict, ii_int_int, ii_int_bool, ii_int_str, ii_int_tuple, ii_int_list, ii_int_dict, ii_str_int, ii_str_bool, ii_str_str, ii_str_tuple, ii_str_list, ii_str_dict, ii_tup_int, ii_tup_bool, ii_tup_str, ii_tup_tuple, ii_tup_list, ii_tup_dict, ii_lst_int, ii_lst_bool, ii_lst_str, ii_lst_tuple, ii_lst_list, ii_lst_dict, ii_fz_int, ii_fz_bool, ii_fz_str, ii_fz_tuple, ii_fz_list, ii_fz_dict, hlen]
    · simp only [wps, w_C, w_Var, k_Var, w_Bin, k_Bin1, k_Bin2, w_Tst, k_B, w_Chain, k_Ch1, k_Ch2, k_Ch3t, k_Ch3f, k_Ch4, w_And, w_Or, w_Not, k_Andt, k_Andf, k_Ort, k_Orf, k_Not, w_bAnd, w_bOr, w_bNot, w_bYes, k_bAndt, k_bAndf, k_bOrt, k_bOrf, k_bNot, w_dIf, k_dIft, k_dIff, w_aNil, w_aCons, k_Cons1, k_Cons2, w_Tup, w_Lst, w_Cell, k_Tup, k_Lst, k_Cell, w_Call, k_Call, w_CallF, k_CallF, w_CallN, k_CallN, k_New, k_AddN1, w_Un, k_Un, w_Sl, k_Sl1, k_Sl2, k_Sl3, w_No, w_So, k_So, w_iSeq, k_Items, w_Range1, w_Range2, k_Rng1, k_Rng2, w_iEnum, k_Enum, w_Comp, k_Comp, k_AsL, w_TupRg, w_LstRg, k_TupRg, k_LstRg, w_Rev, k_Rev, rev_tup, rev_lst, k_Di1, k_PT1, k_PT2, w_Nil, w_Nop, w_Fl, w_Seq, k_Seqn, k_Seqr, k_Seqb, k_Seqc, w_Expr, k_Drop, w_Ret, k_Ret, w_Set, k_Set, w_Asg, k_Asg1, k_Nx, w_If, k_Ift, k_Iff, w_For, k_For, k_Put1, k_Put2, w_Fun, w_Fun0, k_Funn, k_Funr, w_newK, w_newT, asB_bl, gN, gTupD, gsCons, gsNil, wipeE, itemsOf, seqItems, len_str, add_ii, sub_ii, neg_i, lt_ii, le_ii, gt_ii, ge_ii, eq_ii, ne_ii, eq_ss, ne_ss, isnot_bb, is_bb, is_non, isnot_non, isNonD, ix_tupD, ix_lstD, ix_fzD, at_lit0, at_lit1, at_lit2, at_lit3, len_fz, len_lst, len_tup, List.map_cons, List.map_nil, List.length_cons, List.length_nil, List.getElem?_cons_zero, List.getElem?_cons_succ, List.set_cons_zero, List.set_cons_succ, List.cons_append, List.nil_append, List.replicate_succ, List.replicate_zero, Nat.reduceSub, Nat.reduceAdd, Nat.reduceLeDiff, if_true, if_false, Bool.false_eq_true, Bool.true_eq_false, Bool.not_true, Bool.not_false, Option.bind_some, Option.map_some, Nat.zero_add, ite_true, ite_false, Int.cast_ofNat_Int, Int.natCast_zero, Int.natCast_one, Int.reduceLT, Int.reduceLE, Int.reduceEq, Int.reduceAdd, Int.reduceSub, Int.reduceNeg, decide_true, decide_false, true_and, and_true, le_size, add_ll, add_tt, tuple_lst, tuple_tup, list_tup, list_lst, sl_tup, sl_lst, ii_non_int, ii_non_bool, ii_non_str, ii_non_tuple, ii_non_list, ii_non_dict, ii_bl_int, ii_bl_bool, ii_bl_str, ii_bl_tuple, ii_bl_list, ii_bl_dict, ii_int_int, ii_int_bool, ii_int_str, ii_int_tuple, ii_int_list, ii_int_dict, ii_str_int, ii_str_bool, ii_str_str, ii_str_tuple, ii_str_list, ii_str_dict, ii_tup_int, ii_tup_bool, ii_tup_str, ii_tup_tuple, ii_tup_list, ii_tup_dict, ii_lst_int, ii_lst_bool, ii_lst_str, ii_lst_tuple, ii_lst_list, ii_lst_dict, ii_fz_int, ii_fz_bool, ii_fz_str, ii_fz_tuple, ii_fz_list, ii_fz_dict]; rfl
    · rw [List.map_id, filt_I _ (fun ns => decide ((ns.length : Int) = k)) (fun ns => by rw [lenD_I])]
      simp only [wps, w_C, w_Var, k_Var, w_Bin, k_Bin1, k_Bin2, w_Tst, k_B, w_Chain, k_Ch1, k_Ch2, k_Ch3t, k_Ch3f, k_Ch4, w_And, w_Or, w_Not, k_Andt, k_Andf, k_Ort, k_Orf, k_Not, w_bAnd, w_bOr, w_bNot, w_bYes, k_bAndt, k_bAndf, k_bOrt, k_bOrf, k_bNot, w_dIf, k_dIft, k_dIff, w_aNil, w_aCons, k_Cons1, k_Cons2, w_Tup, w_Lst, w_Cell, k_Tup, k_Lst, k_Cell, w_Call, k_Call, w_CallF, k_CallF, w_CallN, k_CallN, k_New, k_AddN1, w_Un, k_Un, w_Sl, k_Sl1, k_Sl2, k_Sl3, w_No, w_So, k_So, w_iSeq, k_Items, w_Range1, w_Range2, k_Rng1, k_Rng2, w_iEnum, k_Enum, w_Comp, k_Comp, k_AsL, w_TupRg, w_LstRg, k_TupRg, k_LstRg, w_Rev, k_Rev, rev_tup, rev_lst, k_Di1, k_PT1, k_PT2, w_Nil, w_Nop, w_Fl, w_Seq, k_Seqn, k_Seqr, k_Seqb, k_Seqc, w_Expr, k_Drop, w_Ret, k_Ret, w_Set, k_Set, w_Asg, k_Asg1, k_Nx, w_If, k_Ift, k_Iff, w_For, k_For, k_Put1, k_Put2, w_Fun, w_Fun0, k_Funn, k_Funr, w_newK, w_newT, asB_bl, gN, gTupD, gsCons, gsNil, wipeE, itemsOf, seqItems, len_str, add_ii, sub_ii, neg_i, lt_ii, le_ii, gt_ii, ge_ii, eq_ii, ne_ii, eq_ss, ne_ss, isnot_bb, is_bb, is_non, isnot_non, isNonD, ix_tupD, ix_lstD, ix_fzD, at_lit0, at_lit1, at_lit2, at_lit3, len_fz, len_lst, len_tup, List.map_cons, List.map_nil, List.length_cons, List.length_nil, List.getElem?_cons_zero, List.getElem?_cons_succ, List.set_cons_zero, List.set_cons_succ, List.cons_append, List.nil_append, List.replicate_succ, List.replicate_zero, Nat.reduceSub, Nat.reduceAdd, Nat.reduceLeDiff, if_true, if_false, Bool.false_eq_true, Bool.true_eq_false, Bool.not_true, Bool.not_false, Option.bind_some, Option.map_some, Nat.zero_add, ite_true, ite_false, Int.cast_ofNat_Int, Int.natCast_zero, Int.natCast_one, Int.reduceLT, Int.reduceLE, Int.reduceEq, Int.reduceAdd, Int.reduceSub, Int.reduceNeg, decide_true, decide_false, true_and, and_true, le_size, add_ll, add_tt, tuple_lst, tuple_tup, list_tup, list_lst, sl_tup, sl_lst, ii_non_int, ii_non_bool, ii_non_str, ii_non_tuple, ii_non_list, ii_non_dict, ii_bl_int, ii_bl_bool, ii_bl_str, ii_bl_tuple, ii_bl_list, ii_bl_dict, ii_int_int, ii_int_bool, ii_int_str, ii_int_tuple, ii_int_list, ii_int_dict, ii_str_int, ii_str_bool, ii_str_str, ii_str_tuple, ii_str_list, ii_str_dict, ii_tup_int, ii_tup_bool, ii_tup_str, ii_tup_tuple, ii_tup_list, ii_tup_dict, ii_lst_int, ii_lst_bool, ii_lst_str, ii_lst_tuple, ii_lst_list, ii_lst_dict, ii_fz_int, ii_fz_bool, ii_fz_str, ii_fz_tuple, ii_fz_list, ii_fz_dict]
      refine kk _ (fun ns => ?_) ?_
      · rw [List.mem_filter, decide_eq_true_eq, hm, hi]
        exact sub_grp fun n h => by show (n : Int) ≤ k; omega
      · have := List.length_filter_le (fun ns : List Int => decide ((ns.length : Int) = k)) nss
        omega
/-! ### behind a meeting -/
def behL (ns : List Int) : Nat → List Int → List Int
  | _, [] => []
  | i, c :: cs => (c - if (i : Int) ∈ ns then 1 else 0) :: behL ns (i + 1) cs
theorem behL_len (ns : List Int) : ∀ (i : Nat) (cs : List Int), (behL ns i cs).length = cs.length
  | _, [] => rfl
  | i, c :: cs => congrArg Nat.succ (behL_len ns (i + 1) cs)
theorem behL_get (ns : List Int) : ∀ (i j : Nat) (cs : List Int), (behL ns i cs)[j]? = cs[j]?.map fun c => c - if ((i + j : Nat) : Int) ∈ ns then 1 else 0
  | _, _, [] => by simp [behL]
  | i, 0, c :: cs => rfl
  | i, j + 1, c :: cs => by
    show (behL ns (i + 1) cs)[j]? = cs[j]?.map _
    rw [behL_get ns (i + 1) j cs, show i + 1 + j = i + (j + 1) by omega]
def behF (ns : List Int) : D → D
  | .tup [.int i, .int c] => .int (c - if i ∈ ns then 1 else 0)
  | d => d
theorem behF_map (ns : List Int) : ∀ (i : Nat) (cs : List Int), (enumL i (cs.map D.int)).map (behF ns) = (behL ns i cs).map D.int
  | _, [] => rfl
  | i, c :: cs => by
    show D.int (c - if (i : Int) ∈ ns then 1 else 0) :: (enumL (i + 1) (cs.map D.int)).map (behF ns) = _
    rw [behF_map ns (i + 1) cs]
    rfl
theorem enum_mem {p : D} {ds : List D} {k : Nat} (h : p ∈ enumL k ds) : ∃ (i : Nat) (d : D), p = .tup [.int i, d] ∧ d ∈ ds ∧ i < k + ds.length := by
  obtain ⟨i, hi⟩ := List.getElem?_of_mem h
  obtain ⟨x, h1, h2⟩ := enumL_get hi
  exact ⟨k + i, x, h2, List.mem_of_getElem? h1, by have := (List.getElem?_eq_some_iff.mp h1).1; omega⟩
theorem behind_wp {S : Sto} {cs ns : List Int} {P : D → Sto → Prop} (hl : cs.length ≤ 1000) (kk : P (tupI (behL ns 0 cs)) S) : Wp (f_behind_meeting [.tup (cs.map D.int), tupI ns] S) P := by
  unfold f_behind_meeting d_behind_meeting
  simp only [wps, w_C, w_Var, k_Var, w_Bin, k_Bin1, k_Bin2, w_Tst, k_B, w_Chain, k_Ch1, k_Ch2, k_Ch3t, k_Ch3f, k_Ch4, w_And, w_Or, w_Not, k_Andt, k_Andf, k_Ort, k_Orf, k_Not, w_bAnd, w_bOr, w_bNot, w_bYes, k_bAndt, k_bAndf, k_bOrt, k_bOrf, k_bNot, w_dIf, k_dIft, k_dIff, w_aNil, w_aCons, k_Cons1, k_Cons2, w_Tup, w_Lst, w_Cell, k_Tup, k_Lst, k_Cell, w_Call, k_Call, w_CallF, k_CallF, w_CallN, k_CallN, k_New, k_AddN1, w_Un, k_Un, w_Sl, k_Sl1, k_Sl2, k_Sl3, w_No, w_So, k_So, w_iSeq, k_Items, w_Range1, w_Range2, k_Rng1, k_Rng2, w_iEnum, k_Enum, w_Comp, k_Comp, k_AsL, w_TupRg, w_LstRg, k_TupRg, k_LstRg, w_Rev, k_Rev, rev_tup, rev_lst, k_Di1, k_PT1, k_PT2, w_Nil, w_Nop, w_Fl, w_Seq, k_Seqn, k_Seqr, k_Seqb, k_Seqc, w_Expr, k_Drop, w_Ret, k_Ret, w_Set, k_Set, w_Asg, k_Asg1, k_Nx, w_If, k_Ift, k_Iff, w_For, k_For, k_Put1, k_Put2, w_Fun, w_Fun0, k_Funn, k_Funr, w_newK, w_newT, asB_bl, gN, gTupD, gsCons, gsNil, wipeE, itemsOf, seqItems, len_str, add_ii, sub_ii, neg_i, lt_ii, le_ii, gt_ii, ge_ii, eq_ii, ne_ii, eq_ss, ne_ss, isnot_bb, is_bb, is_non, isnot_non, isNonD, ix_tupD, ix_lstD, ix_fzD, at_lit0, at_lit1, at_lit2, at_lit3, len_fz, len_lst, len_tup, List.map_cons, List.map_nil, List.length_cons, List.length_nil, List.getElem?_cons_zero, List.getElem?_cons_succ, List.set_cons_zero, List.set_cons_succ, List.cons_append, List.nil_append, List.replicate_succ, List.replicate_zero, Nat.reduceSub, Nat.reduceAdd, Nat.reduceLeDiff, if_true, if_false, Bool.false_eq_true, Bool.true_eq_false, Bool.not_true, Bool.not_false, Option.bind_some, Option.map_some, Nat.zero_add, ite_true, ite_false, Int.cast_ofNat_Int, Int.natCast_zero, Int.natCast_one, Int.reduceLT, Int.reduceLE, Int.reduceEq, Int.reduceAdd, Int.reduceSub, Int.reduceNeg, decide_true, decide_false, true_and, and_true, le_size, add_ll, add_tt, tuple_lst, tuple_tup, list_tup, list_lst, sl_tup, sl_lst, ii_non_int, ii_non_bool, ii_non_str, ii_non_tuple, ii_non_list, ii_non_dict, ii_bl_int, ii_bl_bool, ii_bl_str, ii_bl_tuple, ii_bl_list, ii_bl_dict, ii_int_int, ii_int_bool, ii_int_str, ii_int_tuple, ii_int_list, ii_int_dict, ii_str_int, ii_str_bool, ii_str_str, ii_str_tuple, ii_str_list, ii_str_dict, ii_tup_int, ii_tup_bool, ii_tup_str, ii_tup_tuple, ii_tup_list, ii_tup_dict, ii_lst_int, ii_lst_bool, ii_lst_str, ii_lst_tuple, ii_lst_list, ii_lst_dict, ii_fz_int, ii_fz_bool, ii_fz_str, ii_fz_tuple, ii_fz_list, ii_fz_dict]
  refine compGo_pure (behF ns) (by rw [enumL_len, List.length_map, sizeLine_eq]; omega) (fun d hd => ?_) ?_
  · obtain ⟨i, x, ed, hx, _⟩ := enum_mem hd
    obtain ⟨c, hc, ex⟩ := List.mem_map.mp hx
    subst ed ex
    refine ⟨_, rfl, ?_⟩
    have hin : oIn false S (.int (i : Int)) (tupI ns) = some (.bl (decide ((i : Int) ∈ ns))) := by
      unfold tupI
      rw [in_ints, Bool.false_xor]
    have hi : oIntC S [.bl (decide ((i : Int) ∈ ns))] = some (.int (if (i : Int) ∈ ns then 1 else 0)) := by
      by_cases z : (i : Int) ∈ ns
      · rw [decide_eq_true z, if_pos z]; rfl
      · rw [decide_eq_false z, if_neg z]; rfl
    simp only [wps, w_C, w_Var, k_Var, w_Bin, k_Bin1, k_Bin2, w_Tst, k_B, w_Chain, k_Ch1, k_Ch2, k_Ch3t, k_Ch3f, k_Ch4, w_And, w_Or, w_Not, k_Andt, k_Andf, k_Ort, k_Orf, k_Not, w_bAnd, w_bOr, w_bNot, w_bYes, k_bAndt, k_bAndf, k_bOrt, k_bOrf, k_bNot, w_dIf, k_dIft, k_dIff, w_aNil, w_aCons, k_Cons1, k_Cons2, w_Tup, w_Lst, w_Cell, k_Tup, k_Lst, k_Cell, w_Call, k_Call, w_CallF, k_CallF, w_CallN, k_CallN, k_New, k_AddN1, w_Un, k_Un, w_Sl, k_Sl1, k_Sl2, k_Sl3, w_No, w_So, k_So, w_iSeq, k_Items, w_Range1, w_Range2, k_Rng1, k_Rng2, w_iEnum, k_Enum, w_Comp, k_Comp, k_AsL, w_TupRg, w_LstRg, k_TupRg, k_LstRg, w_Rev, k_Rev, rev_tup, rev_lst, k_Di1, k_PT1, k_PT2, w_Nil, w_Nop, w_Fl, w_Seq, k_Seqn, k_Seqr, k_Seqb, k_Seqc, w_Expr, k_Drop, w_Ret, k_Ret, w_Set, k_Set, w_Asg, k_Asg1, k_Nx, w_If, k_Ift, k_Iff, w_For, k_For, k_Put1, k_Put2, w_Fun, w_Fun0, k_Funn, k_Funr, w_newK, w_newT, asB_bl, gN, gTupD, gsCons, gsNil, wipeE, itemsOf, seqItems, len_str, add_ii, sub_ii, neg_i, lt_ii, le_ii, gt_ii, ge_ii, eq_ii, ne_ii, eq_ss, ne_ss, isnot_bb, is_bb, is_non, isnot_non, isNonD, ix_tupD, ix_lstD, ix_fzD, at_lit0, at_lit1, at_lit2, at_lit3, len_fz, len_lst, len_tup, List.map_cons, List.map_nil, List.length_cons, List.length_nil, List.getElem?_cons_zero, List.getElem?_cons_succ, List.set_cons_zero, List.set_cons_succ, List.cons_append, List.nil_append, List.replicate_succ, List.replicate_zero, Nat.reduceSub, Nat.reduceAdd, Nat.reduceLeDiff, if_true, if_false, Bool.false_eq_true, Bool.true_eq_false, Bool.not_true, Bool.not_false, Option.bind_some, Option.map_some, Nat.zero_add, ite_true, ite_false, Int.cast_ofNat_Int, Int.natCast_zero, Int.natCast_one, Int.reduceLT, Int.reduceLE, Int.reduceEq, Int.reduceAdd, Int.reduceSub, Int.reduceNeg, decide_true, decide_false, true_and, and_true, le_size, add_ll, add_tt, tuple_lst, tuple_tup, list_tup, list_lst, sl_tup, sl_lst, ii_non_int, ii_non_bool, ii_non_str, ii_non_tuple, ii_non_list, ii_non_dict, ii_bl_int, ii_bl_bool, ii_bl_str, ii_bl_tuple, ii_bl_list, ii_bl_dict, ii_int_int, ii_int_bool, ii_int_str, ii_int_tuple, ii_int_list, ii_int_dict, ii_str_int, ii_str_bool, ii_str_str, ii_str_tuple, ii_str_list, ii_str_dict, ii_tup_int, ii_tup_bool, ii_tup_str, ii_tup_tuple, ii_tup_list, ii_tup_dict, ii_lst_int, ii_lst_bool, ii_lst_str, ii_lst_tuple, ii_lst_list, ii_lst_dict, ii_fz_int, ii_fz_bool, ii_fz_str, ii_fz_tuple, ii_fz_list, ii_fz_dict, hin, hi]
    rfl
  · rw [behF_map]
    simp only [wps, w_C, w_Var, k_Var, w_Bin, k_Bin1, k_Bin2, w_Tst, k_B, w_Chain, k_Ch1, k_Ch2, k_Ch3t, k_Ch3f, k_Ch4, w_And, w_Or, w_Not, k_Andt, k_Andf, k_Ort, k_Orf, k_Not, w_bAnd, w_bOr, w_bNot, w_bYes, k_bAndt, k_bAndf, k_bOrt, k_bOrf, k_bNot, w_dIf, k_dIft, k_dIff, w_aNil, w_aCons, k_Cons1, k_Cons2, w_Tup, w_Lst, w_Cell, k_Tup, k_Lst, k_Cell, w_Call, k_Call, w_CallF, k_CallF, w_CallN, k_CallN, k_New, k_AddN1, w_Un, k_Un, w_Sl, k_Sl1, k_Sl2, k_Sl3, w_No, w_So, k_So, w_iSeq, k_Items, w_Range1, w_Range2, k_Rng1, k_Rng2, w_iEnum, k_Enum, w_Comp, k_Comp, k_AsL, w_TupRg, w_LstRg, k_TupRg, k_LstRg, w_Rev, k_Rev, rev_tup, rev_lst, k_Di1, k_PT1, k_PT2, w_Nil, w_Nop, w_Fl, w_Seq, k_Seqn, k_Seqr, k_Seqb, k_Seqc, w_Expr, k_Drop, w_Ret, k_Ret, w_Set, k_Set, w_Asg, k_Asg1, k_Nx, w_If, k_Ift, k_Iff, w_For, k_For, k_Put1, k_Put2, w_Fun, w_Fun0, k_Funn, k_Funr, w_newK, w_newT, asB_bl, gN, gTupD, gsCons, gsNil, wipeE, itemsOf, seqItems, len_str, add_ii, sub_ii, neg_i, lt_ii, le_ii, gt_ii, ge_ii, eq_ii, ne_ii, eq_ss, ne_ss, isnot_bb, is_bb, is_non, isnot_non, isNonD, ix_tupD, ix_lstD, ix_fzD, at_lit0, at_lit1, at_lit2, at_lit3, len_fz, len_lst, len_tup, List.map_cons, List.map_nil, List.length_cons, List.length_nil, List.getElem?_cons_zero, List.getElem?_cons_succ, List.set_cons_zero, List.set_cons_succ, List.cons_append, List.nil_append, List.replicate_succ, List.replicate_zero, Nat.reduceSub, Nat.reduceAdd, Nat.reduceLeDiff, if_true, if_false, Bool.false_eq_true, Bool.true_eq_false, Bool.not_true, Bool.not_false, Option.bind_some, Option.map_some, Nat.zero_add, ite_true, ite_false, Int.cast_ofNat_Int, Int.natCast_zero, Int.natCast_one, Int.reduceLT, Int.reduceLE, Int.reduceEq, Int.reduceAdd, Int.reduceSub, Int.reduceNeg, decide_true, decide_false, true_and, and_true, le_size, add_ll, add_tt, tuple_lst, tuple_tup, list_tup, list_lst, sl_tup, sl_lst, ii_non_int, ii_non_bool, ii_non_str, ii_non_tuple, ii_non_list, ii_non_dict, ii_bl_int, ii_bl_bool, ii_bl_str, ii_bl_tuple, ii_bl_list, ii_bl_dict, ii_int_int, ii_int_bool, ii_int_str, ii_int_tuple, ii_int_list, ii_int_dict, ii_str_int, ii_str_bool, ii_str_str, ii_str_tuple, ii_str_list, ii_str_dict, ii_tup_int, ii_tup_bool, ii_tup_str, ii_tup_tuple, ii_tup_list, ii_tup_dict, ii_lst_int, ii_lst_bool, ii_lst_str, ii_lst_tuple, ii_lst_list, ii_lst_dict, ii_fz_int, ii_fz_bool, ii_fz_str, ii_fz_tuple, ii_fz_list, ii_fz_dict]
    exact kk
def metL (cs ns : List Int) : List Int := ns.foldl (fun cs e => cs.set e.toNat (cs[e.toNat]?.getD 0 - 1)) cs
theorem metL_len : ∀ (ns cs : List Int), (metL cs ns).length = cs.length
  | [], _ => rfl
  | e :: ns, cs => by
    show (metL (cs.set e.toNat _) ns).length = _
    rw [metL_len, List.length_set]
theorem metL_get : ∀ (ns cs : List Int), ns.Nodup → (∀ e ∈ ns, 0 ≤ e) → ∀ j : Nat, (metL cs ns)[j]? = cs[j]?.map fun c => c - if (j : Int) ∈ ns then 1 else 0
  | [], cs, _, _, j => by
    show cs[j]? = _
    cases cs[j]? with
    | none => rfl
    | some c => simp
  | e :: ns, cs, hn, h0, j => by
    have hn' := List.nodup_cons.mp hn
    have he := h0 e List.mem_cons_self
    show (metL (cs.set e.toNat (cs[e.toNat]?.getD 0 - 1)) ns)[j]? = _
    rw [metL_get ns _ hn'.2 (fun e he => h0 e (List.mem_cons_of_mem _ he)) j]
    by_cases z : e.toNat = j
    · have ej : (j : Int) = e := by omega
      rw [z, ej]
      rw [if_neg hn'.1, if_pos List.mem_cons_self]
      by_cases hl : j < cs.length
      · rw [List.getElem?_set_self hl, List.getElem?_eq_getElem hl]
        simp
      · rw [List.getElem?_eq_none (by rw [List.length_set]; omega), List.getElem?_eq_none (by omega)]
        rfl
    · rw [List.getElem?_set_ne z]
      have : ((j : Int) ∈ e :: ns) ↔ (j : Int) ∈ ns := by
        rw [List.mem_cons]
        exact ⟨fun h => h.elim (fun q => absurd (show e.toNat = j by omega) z) id, .inr⟩
      simp only [this]
theorem met_beh {cs ns : List Int} (hn : ns.Nodup) (h0 : ∀ e ∈ ns, 0 ≤ e) : metL cs ns = behL ns 0 cs := by
  refine List.ext_getElem? fun j => ?_
  rw [metL_get ns cs hn h0, behL_get, Nat.zero_add]
theorem take_app {S : Sto} {c : Cell} : (S ++ [c]).take S.length = S := by simp
theorem met_wp {S : Sto} {cs ns : List Int} {P : D → Sto → Prop} (hl : cs.length ≤ 1000) (hn : Inc ns) (hr : ∀ e ∈ ns, 0 ≤ e ∧ e < cs.length) (kk : P (tupI (behL ns 0 cs)) S) : Wp (f__law_e_met [.tup (cs.map D.int), tupI ns] S) P := by
  unfold f__law_e_met d__law_e_met tupI
  refine wp_frz ?_
  simp only [wps, w_C, w_Var, k_Var, w_Bin, k_Bin1, k_Bin2, w_Tst, k_B, w_Chain, k_Ch1, k_Ch2, k_Ch3t, k_Ch3f, k_Ch4, w_And, w_Or, w_Not, k_Andt, k_Andf, k_Ort, k_Orf, k_Not, w_bAnd, w_bOr, w_bNot, w_bYes, k_bAndt, k_bAndf, k_bOrt, k_bOrf, k_bNot, w_dIf, k_dIft, k_dIff, w_aNil, w_aCons, k_Cons1, k_Cons2, w_Tup, w_Lst, w_Cell, k_Tup, k_Lst, k_Cell, w_Call, k_Call, w_CallF, k_CallF, w_CallN, k_CallN, k_New, k_AddN1, w_Un, k_Un, w_Sl, k_Sl1, k_Sl2, k_Sl3, w_No, w_So, k_So, w_iSeq, k_Items, w_Range1, w_Range2, k_Rng1, k_Rng2, w_iEnum, k_Enum, w_Comp, k_Comp, k_AsL, w_TupRg, w_LstRg, k_TupRg, k_LstRg, w_Rev, k_Rev, rev_tup, rev_lst, k_Di1, k_PT1, k_PT2, w_Nil, w_Nop, w_Fl, w_Seq, k_Seqn, k_Seqr, k_Seqb, k_Seqc, w_Expr, k_Drop, w_Ret, k_Ret, w_Set, k_Set, w_Asg, k_Asg1, k_Nx, w_If, k_Ift, k_Iff, w_For, k_For, k_Put1, k_Put2, w_Fun, w_Fun0, k_Funn, k_Funr, w_newK, w_newT, asB_bl, gN, gTupD, gsCons, gsNil, wipeE, itemsOf, seqItems, len_str, add_ii, sub_ii, neg_i, lt_ii, le_ii, gt_ii, ge_ii, eq_ii, ne_ii, eq_ss, ne_ss, isnot_bb, is_bb, is_non, isnot_non, isNonD, ix_tupD, ix_lstD, ix_fzD, at_lit0, at_lit1, at_lit2, at_lit3, len_fz, len_lst, len_tup, List.map_cons, List.map_nil, List.length_cons, List.length_nil, List.getElem?_cons_zero, List.getElem?_cons_succ, List.set_cons_zero, List.set_cons_succ, List.cons_append, List.nil_append, List.replicate_succ, List.replicate_zero, Nat.reduceSub, Nat.reduceAdd, Nat.reduceLeDiff, if_true, if_false, Bool.false_eq_true, Bool.true_eq_false, Bool.not_true, Bool.not_false, Option.bind_some, Option.map_some, Nat.zero_add, ite_true, ite_false, Int.cast_ofNat_Int, Int.natCast_zero, Int.natCast_one, Int.reduceLT, Int.reduceLE, Int.reduceEq, Int.reduceAdd, Int.reduceSub, Int.reduceNeg, decide_true, decide_false, true_and, and_true, le_size, add_ll, add_tt, tuple_lst, tuple_tup, list_tup, list_lst, sl_tup, sl_lst, ii_non_int, ii_non_bool, ii_non_str, ii_non_tuple, ii_non_list, ii_non_dict, ii_bl_int, ii_bl_bool, ii_bl_str, ii_bl_tuple, ii_bl_list, ii_bl_dict, ii_int_int, ii_int_bool, ii_int_str, ii_int_tuple, ii_int_list, ii_int_dict, ii_str_int, ii_str_bool, ii_str_str, ii_str_tuple, ii_str_list, ii_str_dict, ii_tup_int, ii_tup_bool, ii_tup_str, ii_tup_tuple, ii_tup_list, ii_tup_dict, ii_lst_int, ii_lst_bool, ii_lst_str, ii_lst_tuple, ii_lst_list, ii_lst_dict, ii_fz_int, ii_fz_bool, ii_fz_str, ii_fz_tuple, ii_fz_list, ii_fz_dict]
  have hseq : oListN S [.tup (cs.map D.int)] = some (cs.map D.int) := rfl
  simp only [wps, w_C, w_Var, k_Var, w_Bin, k_Bin1, k_Bin2, w_Tst, k_B, w_Chain, k_Ch1, k_Ch2, k_Ch3t, k_Ch3f, k_Ch4, w_And, w_Or, w_Not, k_Andt, k_Andf, k_Ort, k_Orf, k_Not, w_bAnd, w_bOr, w_bNot, w_bYes, k_bAndt, k_bAndf, k_bOrt, k_bOrf, k_bNot, w_dIf, k_dIft, k_dIff, w_aNil, w_aCons, k_Cons1, k_Cons2, w_Tup, w_Lst, w_Cell, k_Tup, k_Lst, k_Cell, w_Call, k_Call, w_CallF, k_CallF, w_CallN, k_CallN, k_New, k_AddN1, w_Un, k_Un, w_Sl, k_Sl1, k_Sl2, k_Sl3, w_No, w_So, k_So, w_iSeq, k_Items, w_Range1, w_Range2, k_Rng1, k_Rng2, w_iEnum, k_Enum, w_Comp, k_Comp, k_AsL, w_TupRg, w_LstRg, k_TupRg, k_LstRg, w_Rev, k_Rev, rev_tup, rev_lst, k_Di1, k_PT1, k_PT2, w_Nil, w_Nop, w_Fl, w_Seq, k_Seqn, k_Seqr, k_Seqb, k_Seqc, w_Expr, k_Drop, w_Ret, k_Ret, w_Set, k_Set, w_Asg, k_Asg1, k_Nx, w_If, k_Ift, k_Iff, w_For, k_For, k_Put1, k_Put2, w_Fun, w_Fun0, k_Funn, k_Funr, w_newK, w_newT, asB_bl, gN, gTupD, gsCons, gsNil, wipeE, itemsOf, seqItems, len_str, add_ii, sub_ii, neg_i, lt_ii, le_ii, gt_ii, ge_ii, eq_ii, ne_ii, eq_ss, ne_ss, isnot_bb, is_bb, is_non, isnot_non, isNonD, ix_tupD, ix_lstD, ix_fzD, at_lit0, at_lit1, at_lit2, at_lit3, len_fz, len_lst, len_tup, List.map_cons, List.map_nil, List.length_cons, List.length_nil, List.getElem?_cons_zero, List.getElem?_cons_succ, List.set_cons_zero, List.set_cons_succ, List.cons_append, List.nil_append, List.replicate_succ, List.replicate_zero, Nat.reduceSub, Nat.reduceAdd, Nat.reduceLeDiff, if_true, if_false, Bool.false_eq_true, Bool.true_eq_false, Bool.not_true, Bool.not_false, Option.bind_some, Option.map_some, Nat.zero_add, ite_true, ite_false, Int.cast_ofNat_Int, Int.natCast_zero, Int.natCast_one, Int.reduceLT, Int.reduceLE, Int.reduceEq, Int.reduceAdd, Int.reduceSub, Int.reduceNeg, decide_true, decide_false, true_and, and_true, le_size, add_ll, add_tt, tuple_lst, tuple_tup, list_tup, list_lst, sl_tup, sl_lst, ii_non_int, ii_non_bool, ii_non_str, ii_non_tuple, ii_non_list, ii_non_dict, ii_bl_int, ii_bl_bool, ii_bl_str, ii_bl_tuple, ii_bl_list, ii_bl_dict, ii_int_int, ii_int_bool, ii_int_str, ii_int_tuple, ii_int_list, ii_int_dict, ii_str_int, ii_str_bool, ii_str_str, ii_str_tuple, ii_str_list, ii_str_dict, ii_tup_int, ii_tup_bool, ii_tup_str, ii_tup_tuple, ii_tup_list, ii_tup_dict, ii_lst_int, ii_lst_bool, ii_lst_str, ii_lst_tuple, ii_lst_list, ii_lst_dict, ii_fz_int, ii_fz_bool, ii_fz_str, ii_fz_tuple, ii_fz_list, ii_fz_dict, hseq]
  refine forGo_wp (fun rest env T => ∃ (done left : List Int) (xs : List Int) (e3 : Option D), rest = left.map D.int ∧ ns = done ++ left ∧ env = [some (.tup (cs.map D.int)), some (.tup (ns.map D.int)), some (.ref S.length), e3] ∧ T = S ++ [.lst (xs.map D.int)] ∧ xs = metL cs done) _ _ _
    ⟨[], ns, cs, none, rfl, rfl, rfl, rfl, rfl⟩ (fun d rest env T hI => ?_) fun env T hI => ?_
  · obtain ⟨done, left, xs, e3, e1, e2, e, eT, ex⟩ := hI
    cases left with
    | nil => cases e1
    | cons a left =>
      obtain ⟨ed, er⟩ := List.cons.inj e1
      subst e ed eT
      refine ⟨_, rfl, ?_⟩
      have ha := hr a (by rw [e2]; simp)
      have hxl : xs.length = cs.length := by rw [ex, metL_len]
      have hat : oIx (S ++ [.lst (xs.map D.int)]) (.ref S.length) (.int a) = some (.int (xs[a.toNat]?.getD 0)) := by
        rw [ix_refD (app_at _ _)]
        refine at_nat ha.1 ?_
        rw [List.getElem?_map, List.getElem?_eq_getElem (show a.toNat < xs.length by omega)]
        rfl
      have hix : ixN (xs.map D.int).length a = some a.toNat := by
        rw [List.length_map]
        unfold ixN
        rw [if_pos ha.1, if_pos (by omega)]
      refine w_PutL ?_
      simp only [wps, w_C, w_Var, k_Var, w_Bin, k_Bin1, k_Bin2, w_Tst, k_B, w_Chain, k_Ch1, k_Ch2, k_Ch3t, k_Ch3f, k_Ch4, w_And, w_Or, w_Not, k_Andt, k_Andf, k_Ort, k_Orf, k_Not, w_bAnd, w_bOr, w_bNot, w_bYes, k_bAndt, k_bAndf, k_bOrt, k_bOrf, k_bNot, w_dIf, k_dIft, k_dIff, w_aNil, w_aCons, k_Cons1, k_Cons2, w_Tup, w_Lst, w_Cell, k_Tup, k_Lst, k_Cell, w_Call, k_Call, w_CallF, k_CallF, w_CallN, k_CallN, k_New, k_AddN1, w_Un, k_Un, w_Sl, k_Sl1, k_Sl2, k_Sl3, w_No, w_So, k_So, w_iSeq, k_Items, w_Range1, w_Range2, k_Rng1, k_Rng2, w_iEnum, k_Enum, w_Comp, k_Comp, k_AsL, w_TupRg, w_LstRg, k_TupRg, k_LstRg, w_Rev, k_Rev, rev_tup, rev_lst, k_Di1, k_PT1, k_PT2, w_Nil, w_Nop, w_Fl, w_Seq, k_Seqn, k_Seqr, k_Seqb, k_Seqc, w_Expr, k_Drop, w_Ret, k_Ret, w_Set, k_Set, w_Asg, k_Asg1, k_Nx, w_If, k_Ift, k_Iff, w_For, k_For, k_Put1, k_Put2, w_Fun, w_Fun0, k_Funn, k_Funr, w_newK, w_newT, asB_bl, gN, gTupD, gsCons, gsNil, wipeE, itemsOf, seqItems, len_str, add_ii, sub_ii, neg_i, lt_ii, le_ii, gt_ii, ge_ii, eq_ii, ne_ii, eq_ss, ne_ss, isnot_bb, is_bb, is_non, isnot_non, isNonD, ix_tupD, ix_lstD, ix_fzD, at_lit0, at_lit1, at_lit2, at_lit3, len_fz, len_lst, len_tup, List.map_cons, List.map_nil, List.length_cons, List.length_nil, List.getElem?_cons_zero, List.getElem?_cons_succ, List.set_cons_zero, List.set_cons_succ, List.cons_append, List.nil_append, List.replicate_succ, List.replicate_zero, Nat.reduceSub, Nat.reduceAdd, Nat.reduceLeDiff, if_true, if_false, Bool.false_eq_true, Bool.true_eq_false, Bool.not_true, Bool.not_false, Option.bind_some, Option.map_some, Nat.zero_add, ite_true, ite_false, Int.cast_ofNat_Int, Int.natCast_zero, Int.natCast_one, Int.reduceLT, Int.reduceLE, Int.reduceEq, Int.reduceAdd, Int.reduceSub, Int.reduceNeg, decide_true, decide_false, true_and, and_true, le_size, add_ll, add_tt, tuple_lst, tuple_tup, list_tup, list_lst, sl_tup, sl_lst, ii_non_int, ii_non_bool, ii_non_str, ii_non_tuple, ii_non_list, ii_non_dict, ii_bl_int, ii_bl_bool, ii_bl_str, ii_bl_tuple, ii_bl_list, ii_bl_dict, ii_int_int, ii_int_bool, ii_int_str, ii_int_tuple, ii_int_list, ii_int_dict, ii_str_int, ii_str_bool, ii_str_str, ii_str_tuple, ii_str_list, ii_str_dict, ii_tup_int, ii_tup_bool, ii_tup_str, ii_tup_tuple, ii_tup_list, ii_tup_dict, ii_lst_int, ii_lst_bool, ii_lst_str, ii_lst_tuple, ii_lst_list, ii_lst_dict, ii_fz_int, ii_fz_bool, ii_fz_str, ii_fz_tuple, ii_fz_list, ii_fz_dict, hat]
      refine ⟨S.length, _, a, a.toNat, rfl, app_at _ _, rfl, hix, done ++ [a], left, xs.set a.toNat (xs[a.toNat]?.getD 0 - 1), _, er, by rw [e2]; simp, rfl, ?_, ?_⟩
      · rw [List.map_set]
        simp
      · rw [ex]
        unfold metL
        rw [List.foldl_append]
        rfl
  · obtain ⟨done, left, xs, e3, e1, e2, e, eT, ex⟩ := hI
    cases left with
    | cons a left => cases e1
    | nil =>
      rw [List.append_nil] at e2
      subst e eT e2
      have ht : oTuple (S ++ [.lst (xs.map D.int)]) [.ref S.length] = some (.tup (xs.map D.int)) := by
        show (listOf (S ++ [.lst (xs.map D.int)]) (.ref S.length)).map D.tup = _
        rw [list_ref (app_at _ _)]
        rfl
      simp only [wps, w_C, w_Var, k_Var, w_Bin, k_Bin1, k_Bin2, w_Tst, k_B, w_Chain, k_Ch1, k_Ch2, k_Ch3t, k_Ch3f, k_Ch4, w_And, w_Or, w_Not, k_Andt, k_Andf, k_Ort, k_Orf, k_Not, w_bAnd, w_bOr, w_bNot, w_bYes, k_bAndt, k_bAndf, k_bOrt, k_bOrf, k_bNot, w_dIf, k_dIft, k_dIff, w_aNil, w_aCons, k_Cons1, k_Cons2, w_Tup, w_Lst, w_Cell, k_Tup, k_Lst, k_Cell, w_Call, k_Call, w_CallF, k_CallF, w_CallN, k_CallN, k_New, k_AddN1, w_Un, k_Un, w_Sl, k_Sl1, k_Sl2, k_Sl3, w_No, w_So, k_So, w_iSeq, k_Items, w_Range1, w_Range2, k_Rng1, k_Rng2, w_iEnum, k_Enum, w_Comp, k_Comp, k_AsL, w_TupRg, w_LstRg, k_TupRg, k_LstRg, w_Rev, k_Rev, rev_tup, rev_lst, k_Di1, k_PT1, k_PT2, w_Nil, w_Nop, w_Fl, w_Seq, k_Seqn, k_Seqr, k_Seqb, k_Seqc, w_Expr, k_Drop, w_Ret, k_Ret, w_Set, k_Set, w_Asg, k_Asg1, k_Nx, w_If, k_Ift, k_Iff, w_For, k_For, k_Put1, k_Put2, w_Fun, w_Fun0, k_Funn, k_Funr, w_newK, w_newT, asB_bl, gN, gTupD, gsCons, gsNil, wipeE, itemsOf, seqItems, len_str, add_ii, sub_ii, neg_i, lt_ii, le_ii, gt_ii, ge_ii, eq_ii, ne_ii, eq_ss, ne_ss, isnot_bb, is_bb, is_non, isnot_non, isNonD, ix_tupD, ix_lstD, ix_fzD, at_lit0, at_lit1, at_lit2, at_lit3, len_fz, len_lst, len_tup, List.map_cons, List.map_nil, List.length_cons, List.length_nil, List.getElem?_cons_zero, List.getElem?_cons_succ, List.set_cons_zero, List.set_cons_succ, List.cons_append, List.nil_append, List.replicate_succ, List.replicate_zero, Nat.reduceSub, Nat.reduceAdd, Nat.reduceLeDiff, if_true, if_false, Bool.false_eq_true, Bool.true_eq_false, Bool.not_true, Bool.not_false, Option.bind_some, Option.map_some, Nat.zero_add, ite_true, ite_false, Int.cast_ofNat_Int, Int.natCast_zero, Int.natCast_one, Int.reduceLT, Int.reduceLE, Int.reduceEq, Int.reduceAdd, Int.reduceSub, Int.reduceNeg, decide_true, decide_false, true_and, and_true, le_size, add_ll, add_tt, tuple_lst, tuple_tup, list_tup, list_lst, sl_tup, sl_lst, ii_non_int, ii_non_bool, ii_non_str, ii_non_tuple, ii_non_list, ii_non_dict, ii_bl_int, ii_bl_bool, ii_bl_str, ii_bl_tuple, ii_bl_list, ii_bl_dict, ii_int_int, ii_int_bool, ii_int_str, ii_int_tuple, ii_int_list, ii_int_dict, ii_str_int, ii_str_bool, ii_str_str, ii_str_tuple, ii_str_list, ii_str_dict, ii_tup_int, ii_tup_bool, ii_tup_str, ii_tup_tuple, ii_tup_list, ii_tup_dict, ii_lst_int, ii_lst_bool, ii_lst_str, ii_lst_tuple, ii_lst_list, ii_lst_dict, ii_fz_int, ii_fz_bool, ii_fz_str, ii_fz_tuple, ii_fz_list, ii_fz_dict, ht]
      refine ⟨fun j c hj e => .inl (by rw [List.getElem?_append_left hj] at e; exact e), tupI (behL ns 0 cs), ?_, by rw [take_app]; exact kk⟩
      rw [ex, met_beh (hn.imp fun h => by omega) fun e he => (hr e he).1]
      exact mapD_id _ (ltL_ints 0 _)
def asIntD : D → Int
  | .int i => i
  | _ => 0

theorem count_wp {S : Sto} {c : Int} {P : D → Sto → Prop} (k : P (.bl (decide (0 ≤ c))) S) : Wp (f_is_count [.int c] S) P := by
  unfold f_is_count d_is_count
  simp only [wps, w_C, w_Var, k_Var, w_Bin, k_Bin1, k_Bin2, w_Tst, k_B, w_Chain, k_Ch1, k_Ch2, k_Ch3t, k_Ch3f, k_Ch4, w_And, w_Or, w_Not, k_Andt, k_Andf, k_Ort, k_Orf, k_Not, w_bAnd, w_bOr, w_bNot, w_bYes, k_bAndt, k_bAndf, k_bOrt, k_bOrf, k_bNot, w_dIf, k_dIft, k_dIff, w_aNil, w_aCons, k_Cons1, k_Cons2, w_Tup, w_Lst, w_Cell, k_Tup, k_Lst, k_Cell, w_Call, k_Call, w_CallF, k_CallF, w_CallN, k_CallN, k_New, k_AddN1, w_Un, k_Un, w_Sl, k_Sl1, k_Sl2, k_Sl3, w_No, w_So, k_So, w_iSeq, k_Items, w_Range1, w_Range2, k_Rng1, k_Rng2, w_iEnum, k_Enum, w_Comp, k_Comp, k_AsL, w_TupRg, w_LstRg, k_TupRg, k_LstRg, w_Rev, k_Rev, rev_tup, rev_lst, k_Di1, k_PT1, k_PT2, w_Nil, w_Nop, w_Fl, w_Seq, k_Seqn, k_Seqr, k_Seqb, k_Seqc, w_Expr, k_Drop, w_Ret, k_Ret, w_Set, k_Set, w_Asg, k_Asg1, k_Nx, w_If, k_Ift, k_Iff, w_For, k_For, k_Put1, k_Put2, w_Fun, w_Fun0, k_Funn, k_Funr, w_newK, w_newT, asB_bl, gN, gTupD, gsCons, gsNil, wipeE, itemsOf, seqItems, len_str, add_ii, sub_ii, neg_i, lt_ii, le_ii, gt_ii, ge_ii, eq_ii, ne_ii, eq_ss, ne_ss, isnot_bb, is_bb, is_non, isnot_non, isNonD, ix_tupD, ix_lstD, ix_fzD, at_lit0, at_lit1, at_lit2, at_lit3, len_fz, len_lst, len_tup, List.map_cons, List.map_nil, List.length_cons, List.length_nil, List.getElem?_cons_zero, List.getElem?_cons_succ, List.set_cons_zero, List.set_cons_succ, List.cons_append, List.nil_append, List.replicate_succ, List.replicate_zero, Nat.reduceSub, Nat.reduceAdd, Nat.reduceLeDiff, if_true, if_false, Bool.false_eq_true, Bool.true_eq_false, Bool.not_true, Bool.not_false, Option.bind_some, Option.map_some, Nat.zero_add, ite_true, ite_false, Int.cast_ofNat_Int, Int.natCast_zero, Int.natCast_one, Int.reduceLT, Int.reduceLE, Int.reduceEq, Int.reduceAdd, Int.reduceSub, Int.reduceNeg, decide_true, decide_false, true_and, and_true, le_size, add_ll, add_tt, tuple_lst, tuple_tup, list_tup, list_lst, sl_tup, sl_lst, ii_non_int, ii_non_bool, ii_non_str, ii_non_tuple, ii_non_list, ii_non_dict, ii_bl_int, ii_bl_bool, ii_bl_str, ii_bl_tuple, ii_bl_list, ii_bl_dict, ii_int_int, ii_int_bool, ii_int_str, ii_int_tuple, ii_int_list, ii_int_dict, ii_str_int, ii_str_bool, ii_str_str, ii_str_tuple, ii_str_list, ii_str_dict, ii_tup_int, ii_tup_bool, ii_tup_str, ii_tup_tuple, ii_tup_list, ii_tup_dict, ii_lst_int, ii_lst_bool, ii_lst_str, ii_lst_tuple, ii_lst_list, ii_lst_dict, ii_fz_int, ii_fz_bool, ii_fz_str, ii_fz_tuple, ii_fz_list, ii_fz_dict]
  exact k
theorem counted_wp {S : Sto} {k : Int} {cs : List Int} {P : D → Sto → Prop} {great : Bool} (h : MeetOk great k cs) (kk : P (.bl true) S) : Wp (f_is_counted [.tup [.int k, .tup (cs.map D.int)]] S) P := by
  obtain ⟨k1, k5, l1, l5, c0⟩ := h
  have c4 : ∀ z ∈ cs, 0 ≤ z ∧ z ≤ 4 := fun z hz => by
    have := c0 z hz
    refine ⟨this.1, ?_⟩
    have h2 := this.2
    unfold capN at h2
    split at h2
    · exact h2
    · split at h2
      · exact h2
      · split at h2 <;> omega
  unfold f_is_counted d_is_counted
  simp only [wps, w_C, w_Var, k_Var, w_Bin, k_Bin1, k_Bin2, w_Tst, k_B, w_Chain, k_Ch1, k_Ch2, k_Ch3t, k_Ch3f, k_Ch4, w_And, w_Or, w_Not, k_Andt, k_Andf, k_Ort, k_Orf, k_Not, w_bAnd, w_bOr, w_bNot, w_bYes, k_bAndt, k_bAndf, k_bOrt, k_bOrf, k_bNot, w_dIf, k_dIft, k_dIff, w_aNil, w_aCons, k_Cons1, k_Cons2, w_Tup, w_Lst, w_Cell, k_Tup, k_Lst, k_Cell, w_Call, k_Call, w_CallF, k_CallF, w_CallN, k_CallN, k_New, k_AddN1, w_Un, k_Un, w_Sl, k_Sl1, k_Sl2, k_Sl3, w_No, w_So, k_So, w_iSeq, k_Items, w_Range1, w_Range2, k_Rng1, k_Rng2, w_iEnum, k_Enum, w_Comp, k_Comp, k_AsL, w_TupRg, w_LstRg, k_TupRg, k_LstRg, w_Rev, k_Rev, rev_tup, rev_lst, k_Di1, k_PT1, k_PT2, w_Nil, w_Nop, w_Fl, w_Seq, k_Seqn, k_Seqr, k_Seqb, k_Seqc, w_Expr, k_Drop, w_Ret, k_Ret, w_Set, k_Set, w_Asg, k_Asg1, k_Nx, w_If, k_Ift, k_Iff, w_For, k_For, k_Put1, k_Put2, w_Fun, w_Fun0, k_Funn, k_Funr, w_newK, w_newT, asB_bl, gN, gTupD, gsCons, gsNil, wipeE, itemsOf, seqItems, len_str, add_ii, sub_ii, neg_i, lt_ii, le_ii, gt_ii, ge_ii, eq_ii, ne_ii, eq_ss, ne_ss, isnot_bb, is_bb, is_non, isnot_non, isNonD, ix_tupD, ix_lstD, ix_fzD, at_lit0, at_lit1, at_lit2, at_lit3, len_fz, len_lst, len_tup, List.map_cons, List.map_nil, List.length_cons, List.length_nil, List.getElem?_cons_zero, List.getElem?_cons_succ, List.set_cons_zero, List.set_cons_succ, List.cons_append, List.nil_append, List.replicate_succ, List.replicate_zero, Nat.reduceSub, Nat.reduceAdd, Nat.reduceLeDiff, if_true, if_false, Bool.false_eq_true, Bool.true_eq_false, Bool.not_true, Bool.not_false, Option.bind_some, Option.map_some, Nat.zero_add, ite_true, ite_false, Int.cast_ofNat_Int, Int.natCast_zero, Int.natCast_one, Int.reduceLT, Int.reduceLE, Int.reduceEq, Int.reduceAdd, Int.reduceSub, Int.reduceNeg, decide_true, decide_false, true_and, and_true, le_size, add_ll, add_tt, tuple_lst, tuple_tup, list_tup, list_lst, sl_tup, sl_lst, ii_non_int, ii_non_bool, ii_non_str, ii_non_tuple, ii_non_list, ii_non_dict, ii_bl_int, ii_bl_bool, ii_bl_str, ii_bl_tuple, ii_bl_list, ii_bl_dict, ii_int_int, ii_int_bool, ii_int_str, ii_int_tuple, ii_int_list, ii_int_dict, ii_str_int, ii_str_bool, ii_str_str, ii_str_tuple, ii_str_list, ii_str_dict, ii_tup_int, ii_tup_bool, ii_tup_str, ii_tup_tuple, ii_tup_list, ii_tup_dict, ii_lst_int, ii_lst_bool, ii_lst_str, ii_lst_tuple, ii_lst_list, ii_lst_dict, ii_fz_int, ii_fz_bool, ii_fz_str, ii_fz_tuple, ii_fz_list, ii_fz_dict]
  refine count_wp ?_
  simp only [wps, w_C, w_Var, k_Var, w_Bin, k_Bin1, k_Bin2, w_Tst, k_B, w_Chain, k_Ch1, k_Ch2, k_Ch3t, k_Ch3f, k_Ch4, w_And, w_Or, w_Not, k_Andt, k_Andf, k_Ort, k_Orf, k_Not, w_bAnd, w_bOr, w_bNot, w_bYes, k_bAndt, k_bAndf, k_bOrt, k_bOrf, k_bNot, w_dIf, k_dIft, k_dIff, w_aNil, w_aCons, k_Cons1, k_Cons2, w_Tup, w_Lst, w_Cell, k_Tup, k_Lst, k_Cell, w_Call, k_Call, w_CallF, k_CallF, w_CallN, k_CallN, k_New, k_AddN1, w_Un, k_Un, w_Sl, k_Sl1, k_Sl2, k_Sl3, w_No, w_So, k_So, w_iSeq, k_Items, w_Range1, w_Range2, k_Rng1, k_Rng2, w_iEnum, k_Enum, w_Comp, k_Comp, k_AsL, w_TupRg, w_LstRg, k_TupRg, k_LstRg, w_Rev, k_Rev, rev_tup, rev_lst, k_Di1, k_PT1, k_PT2, w_Nil, w_Nop, w_Fl, w_Seq, k_Seqn, k_Seqr, k_Seqb, k_Seqc, w_Expr, k_Drop, w_Ret, k_Ret, w_Set, k_Set, w_Asg, k_Asg1, k_Nx, w_If, k_Ift, k_Iff, w_For, k_For, k_Put1, k_Put2, w_Fun, w_Fun0, k_Funn, k_Funr, w_newK, w_newT, asB_bl, gN, gTupD, gsCons, gsNil, wipeE, itemsOf, seqItems, len_str, add_ii, sub_ii, neg_i, lt_ii, le_ii, gt_ii, ge_ii, eq_ii, ne_ii, eq_ss, ne_ss, isnot_bb, is_bb, is_non, isnot_non, isNonD, ix_tupD, ix_lstD, ix_fzD, at_lit0, at_lit1, at_lit2, at_lit3, len_fz, len_lst, len_tup, List.map_cons, List.map_nil, List.length_cons, List.length_nil, List.getElem?_cons_zero, List.getElem?_cons_succ, List.set_cons_zero, List.set_cons_succ, List.cons_append, List.nil_append, List.replicate_succ, List.replicate_zero, Nat.reduceSub, Nat.reduceAdd, Nat.reduceLeDiff, if_true, if_false, Bool.false_eq_true, Bool.true_eq_false, Bool.not_true, Bool.not_false, Option.bind_some, Option.map_some, Nat.zero_add, ite_true, ite_false, Int.cast_ofNat_Int, Int.natCast_zero, Int.natCast_one, Int.reduceLT, Int.reduceLE, Int.reduceEq, Int.reduceAdd, Int.reduceSub, Int.reduceNeg, decide_true, decide_false, true_and, and_true, le_size, add_ll, add_tt, tuple_lst, tuple_tup, list_tup, list_lst, sl_tup, sl_lst, ii_non_int, ii_non_bool, ii_non_str, ii_non_tuple, ii_non_list, ii_non_dict, ii_bl_int, ii_bl_bool, ii_bl_str, ii_bl_tuple, ii_bl_list, ii_bl_dict, ii_int_int, ii_int_bool, ii_int_str, ii_int_tuple, ii_int_list, ii_int_dict, ii_str_int, ii_str_bool, ii_str_str, ii_str_tuple, ii_str_list, ii_str_dict, ii_tup_int, ii_tup_bool, ii_tup_str, ii_tup_tuple, ii_tup_list, ii_tup_dict, ii_lst_int, ii_lst_bool, ii_lst_str, ii_lst_tuple, ii_lst_list, ii_lst_dict, ii_fz_int, ii_fz_bool, ii_fz_str, ii_fz_tuple, ii_fz_list, ii_fz_dict, decide_eq_true (show (0 : Int) ≤ k by omega), decide_eq_true (show (1 : Int) ≤ k by omega), decide_eq_true (show k ≤ (5 : Int) by omega), List.length_map, decide_eq_true (show (1 : Int) ≤ (cs.length : Int) by omega), decide_eq_true (show (cs.length : Int) ≤ 5 by omega)]
  refine compGo_pure (fun _ => .bl true) (by rw [List.length_map, sizeLine_eq]; omega) (fun d hd => ?_) ?_
  · obtain ⟨c, hc, ed⟩ := List.mem_map.mp hd
    subst ed
    have := c4 c hc
    refine ⟨_, rfl, ?_⟩
    simp only [wps, w_C, w_Var, k_Var, w_Bin, k_Bin1, k_Bin2, w_Tst, k_B, w_Chain, k_Ch1, k_Ch2, k_Ch3t, k_Ch3f, k_Ch4, w_And, w_Or, w_Not, k_Andt, k_Andf, k_Ort, k_Orf, k_Not, w_bAnd, w_bOr, w_bNot, w_bYes, k_bAndt, k_bAndf, k_bOrt, k_bOrf, k_bNot, w_dIf, k_dIft, k_dIff, w_aNil, w_aCons, k_Cons1, k_Cons2, w_Tup, w_Lst, w_Cell, k_Tup, k_Lst, k_Cell, w_Call, k_Call, w_CallF, k_CallF, w_CallN, k_CallN, k_New, k_AddN1, w_Un, k_Un, w_Sl, k_Sl1, k_Sl2, k_Sl3, w_No, w_So, k_So, w_iSeq, k_Items, w_Range1, w_Range2, k_Rng1, k_Rng2, w_iEnum, k_Enum, w_Comp, k_Comp, k_AsL, w_TupRg, w_LstRg, k_TupRg, k_LstRg, w_Rev, k_Rev, rev_tup, rev_lst, k_Di1, k_PT1, k_PT2, w_Nil, w_Nop, w_Fl, w_Seq, k_Seqn, k_Seqr, k_Seqb, k_Seqc, w_Expr, k_Drop, w_Ret, k_Ret, w_Set, k_Set, w_Asg, k_Asg1, k_Nx, w_If, k_Ift, k_Iff, w_For, k_For, k_Put1, k_Put2, w_Fun, w_Fun0, k_Funn, k_Funr, w_newK, w_newT, asB_bl, gN, gTupD, gsCons, gsNil, wipeE, itemsOf, seqItems, len_str, add_ii, sub_ii, neg_i, lt_ii, le_ii, gt_ii, ge_ii, eq_ii, ne_ii, eq_ss, ne_ss, isnot_bb, is_bb, is_non, isnot_non, isNonD, ix_tupD, ix_lstD, ix_fzD, at_lit0, at_lit1, at_lit2, at_lit3, len_fz, len_lst, len_tup, List.map_cons, List.map_nil, List.length_cons, List.length_nil, List.getElem?_cons_zero, List.getElem?_cons_succ, List.set_cons_zero, List.set_cons_succ, List.cons_append, List.nil_append, List.replicate_succ, List.replicate_zero, Nat.reduceSub, Nat.reduceAdd, Nat.reduceLeDiff, if_true, if_false, Bool.false_eq_true, Bool.true_eq_false, Bool.not_true, Bool.not_false, Option.bind_some, Option.map_some, Nat.zero_add, ite_true, ite_false, Int.cast_ofNat_Int, Int.natCast_zero, Int.natCast_one, Int.reduceLT, Int.reduceLE, Int.reduceEq, Int.reduceAdd, Int.reduceSub, Int.reduceNeg, decide_true, decide_false, true_and, and_true, le_size, add_ll, add_tt, tuple_lst, tuple_tup, list_tup, list_lst, sl_tup, sl_lst, ii_non_int, ii_non_bool, ii_non_str, ii_non_tuple, ii_non_list, ii_non_dict, ii_bl_int, ii_bl_bool, ii_bl_str, ii_bl_tuple, ii_bl_list, ii_bl_dict, ii_int_int, ii_int_bool, ii_int_str, ii_int_tuple, ii_int_list, ii_int_dict, ii_str_int, ii_str_bool, ii_str_str, ii_str_tuple, ii_str_list, ii_str_dict, ii_tup_int, ii_tup_bool, ii_tup_str, ii_tup_tuple, ii_tup_list, ii_tup_dict, ii_lst_int, ii_lst_bool, ii_lst_str, ii_lst_tuple, ii_lst_list, ii_lst_dict, ii_fz_int, ii_fz_bool, ii_fz_str, ii_fz_tuple, ii_fz_list, ii_fz_dict]
    refine count_wp ?_
    simp only [wps, w_C, w_Var, k_Var, w_Bin, k_Bin1, k_Bin2, w_Tst, k_B, w_Chain, k_Ch1, k_Ch2, k_Ch3t, k_Ch3f, k_Ch4, w_And, w_Or, w_Not, k_Andt, k_Andf, k_Ort, k_Orf, k_Not, w_bAnd, w_bOr, w_bNot, w_bYes, k_bAndt, k_bAndf, k_bOrt, k_bOrf, k_bNot, w_dIf, k_dIft, k_dIff, w_aNil, w_aCons, k_Cons1, k_Cons2, w_Tup, w_Lst, w_Cell, k_Tup, k_Lst, k_Cell, w_Call, k_Call, w_CallF, k_CallF, w_CallN, k_CallN, k_New, k_AddN1, w_Un, k_Un, w_Sl, k_Sl1, k_Sl2, k_Sl3, w_No, w_So, k_So, w_iSeq, k_Items, w_Range1, w_Range2, k_Rng1, k_Rng2, w_iEnum, k_Enum, w_Comp, k_Comp, k_AsL, w_TupRg, w_LstRg, k_TupRg, k_LstRg, w_Rev, k_Rev, rev_tup, rev_lst, k_Di1, k_PT1, k_PT2, w_Nil, w_Nop, w_Fl, w_Seq, k_Seqn, k_Seqr, k_Seqb, k_Seqc, w_Expr, k_Drop, w_Ret, k_Ret, w_Set, k_Set, w_Asg, k_Asg1, k_Nx, w_If, k_Ift, k_Iff, w_For, k_For, k_Put1, k_Put2, w_Fun, w_Fun0, k_Funn, k_Funr, w_newK, w_newT, asB_bl, gN, gTupD, gsCons, gsNil, wipeE, itemsOf, seqItems, len_str, add_ii, sub_ii, neg_i, lt_ii, le_ii, gt_ii, ge_ii, eq_ii, ne_ii, eq_ss, ne_ss, isnot_bb, is_bb, is_non, isnot_non, isNonD, ix_tupD, ix_lstD, ix_fzD, at_lit0, at_lit1, at_lit2, at_lit3, len_fz, len_lst, len_tup, List.map_cons, List.map_nil, List.length_cons, List.length_nil, List.getElem?_cons_zero, List.getElem?_cons_succ, List.set_cons_zero, List.set_cons_succ, List.cons_append, List.nil_append, List.replicate_succ, List.replicate_zero, Nat.reduceSub, Nat.reduceAdd, Nat.reduceLeDiff, if_true, if_false, Bool.false_eq_true, Bool.true_eq_false, Bool.not_true, Bool.not_false, Option.bind_some, Option.map_some, Nat.zero_add, ite_true, ite_false, Int.cast_ofNat_Int, Int.natCast_zero, Int.natCast_one, Int.reduceLT, Int.reduceLE, Int.reduceEq, Int.reduceAdd, Int.reduceSub, Int.reduceNeg, decide_true, decide_false, true_and, and_true, le_size, add_ll, add_tt, tuple_lst, tuple_tup, list_tup, list_lst, sl_tup, sl_lst, ii_non_int, ii_non_bool, ii_non_str, ii_non_tuple, ii_non_list, ii_non_dict, ii_bl_int, ii_bl_bool, ii_bl_str, ii_bl_tuple, ii_bl_list, ii_bl_dict, ii_int_int, ii_int_bool, ii_int_str, ii_int_tuple, ii_int_list, ii_int_dict, ii_str_int, ii_str_bool, ii_str_str, ii_str_tuple, ii_str_list, ii_str_dict, ii_tup_int, ii_tup_bool, ii_tup_str, ii_tup_tuple, ii_tup_list, ii_tup_dict, ii_lst_int, ii_lst_bool, ii_lst_str, ii_lst_tuple, ii_lst_list, ii_lst_dict, ii_fz_int, ii_fz_bool, ii_fz_str, ii_fz_tuple, ii_fz_list, ii_fz_dict, decide_eq_true this.1, decide_eq_true this.2]
  · simp only [wps, w_C, w_Var, k_Var, w_Bin, k_Bin1, k_Bin2, w_Tst, k_B, w_Chain, k_Ch1, k_Ch2, k_Ch3t, k_Ch3f, k_Ch4, w_And, w_Or, w_Not, k_Andt, k_Andf, k_Ort, k_Orf, k_Not, w_bAnd, w_bOr, w_bNot, w_bYes, k_bAndt, k_bAndf, k_bOrt, k_bOrf, k_bNot, w_dIf, k_dIft, k_dIff, w_aNil, w_aCons, k_Cons1, k_Cons2, w_Tup, w_Lst, w_Cell, k_Tup, k_Lst, k_Cell, w_Call, k_Call, w_CallF, k_CallF, w_CallN, k_CallN, k_New, k_AddN1, w_Un, k_Un, w_Sl, k_Sl1, k_Sl2, k_Sl3, w_No, w_So, k_So, w_iSeq, k_Items, w_Range1, w_Range2, k_Rng1, k_Rng2, w_iEnum, k_Enum, w_Comp, k_Comp, k_AsL, w_TupRg, w_LstRg, k_TupRg, k_LstRg, w_Rev, k_Rev, rev_tup, rev_lst, k_Di1, k_PT1, k_PT2, w_Nil, w_Nop, w_Fl, w_Seq, k_Seqn, k_Seqr, k_Seqb, k_Seqc, w_Expr, k_Drop, w_Ret, k_Ret, w_Set, k_Set, w_Asg, k_Asg1, k_Nx, w_If, k_Ift, k_Iff, w_For, k_For, k_Put1, k_Put2, w_Fun, w_Fun0, k_Funn, k_Funr, w_newK, w_newT, asB_bl, gN, gTupD, gsCons, gsNil, wipeE, itemsOf, seqItems, len_str, add_ii, sub_ii, neg_i, lt_ii, le_ii, gt_ii, ge_ii, eq_ii, ne_ii, eq_ss, ne_ss, isnot_bb, is_bb, is_non, isnot_non, isNonD, ix_tupD, ix_lstD, ix_fzD, at_lit0, at_lit1, at_lit2, at_lit3, len_fz, len_lst, len_tup, List.map_cons, List.map_nil, List.length_cons, List.length_nil, List.getElem?_cons_zero, List.getElem?_cons_succ, List.set_cons_zero, List.set_cons_succ, List.cons_append, List.nil_append, List.replicate_succ, List.replicate_zero, Nat.reduceSub, Nat.reduceAdd, Nat.reduceLeDiff, if_true, if_false, Bool.false_eq_true, Bool.true_eq_false, Bool.not_true, Bool.not_false, Option.bind_some, Option.map_some, Nat.zero_add, ite_true, ite_false, Int.cast_ofNat_Int, Int.natCast_zero, Int.natCast_one, Int.reduceLT, Int.reduceLE, Int.reduceEq, Int.reduceAdd, Int.reduceSub, Int.reduceNeg, decide_true, decide_false, true_and, and_true, le_size, add_ll, add_tt, tuple_lst, tuple_tup, list_tup, list_lst, sl_tup, sl_lst, ii_non_int, ii_non_bool, ii_non_str, ii_non_tuple, ii_non_list, ii_non_dict, ii_bl_int, ii_bl_bool, ii_bl_str, ii_bl_tuple, ii_bl_list, ii_bl_dict, ii_int_int, ii_int_bool, ii_int_str, ii_int_tuple, ii_int_list, ii_int_dict, ii_str_int, ii_str_bool, ii_str_str, ii_str_tuple, ii_str_list, ii_str_dict, ii_tup_int, ii_tup_bool, ii_tup_str, ii_tup_tuple, ii_tup_list, ii_tup_dict, ii_lst_int, ii_lst_bool, ii_lst_str, ii_lst_tuple, ii_lst_list, ii_lst_dict, ii_fz_int, ii_fz_bool, ii_fz_str, ii_fz_tuple, ii_fz_list, ii_fz_dict, all_lst]
    have : ((cs.map D.int).all fun _ => true) = true := List.all_eq_true.mpr fun _ _ => rfl
    rw [this]
    exact kk
theorem need_wp {S : Sto} {k : Int} {cs : List Int} {P : D → Sto → Prop} {great : Bool} (h : MeetOk great k cs) (kk : P .non S) : Wp (f_need_counted [.tup [.int k, .tup (cs.map D.int)]] S) P := by
  unfold f_need_counted d_need_counted
  simp only [wps, w_C, w_Var, k_Var, w_Bin, k_Bin1, k_Bin2, w_Tst, k_B, w_Chain, k_Ch1, k_Ch2, k_Ch3t, k_Ch3f, k_Ch4, w_And, w_Or, w_Not, k_Andt, k_Andf, k_Ort, k_Orf, k_Not, w_bAnd, w_bOr, w_bNot, w_bYes, k_bAndt, k_bAndf, k_bOrt, k_bOrf, k_bNot, w_dIf, k_dIft, k_dIff, w_aNil, w_aCons, k_Cons1, k_Cons2, w_Tup, w_Lst, w_Cell, k_Tup, k_Lst, k_Cell, w_Call, k_Call, w_CallF, k_CallF, w_CallN, k_CallN, k_New, k_AddN1, w_Un, k_Un, w_Sl, k_Sl1, k_Sl2, k_Sl3, w_No, w_So, k_So, w_iSeq, k_Items, w_Range1, w_Range2, k_Rng1, k_Rng2, w_iEnum, k_Enum, w_Comp, k_Comp, k_AsL, w_TupRg, w_LstRg, k_TupRg, k_LstRg, w_Rev, k_Rev, rev_tup, rev_lst, k_Di1, k_PT1, k_PT2, w_Nil, w_Nop, w_Fl, w_Seq, k_Seqn, k_Seqr, k_Seqb, k_Seqc, w_Expr, k_Drop, w_Ret, k_Ret, w_Set, k_Set, w_Asg, k_Asg1, k_Nx, w_If, k_Ift, k_Iff, w_For, k_For, k_Put1, k_Put2, w_Fun, w_Fun0, k_Funn, k_Funr, w_newK, w_newT, asB_bl, gN, gTupD, gsCons, gsNil, wipeE, itemsOf, seqItems, len_str, add_ii, sub_ii, neg_i, lt_ii, le_ii, gt_ii, ge_ii, eq_ii, ne_ii, eq_ss, ne_ss, isnot_bb, is_bb, is_non, isnot_non, isNonD, ix_tupD, ix_lstD, ix_fzD, at_lit0, at_lit1, at_lit2, at_lit3, len_fz, len_lst, len_tup, List.map_cons, List.map_nil, List.length_cons, List.length_nil, List.getElem?_cons_zero, List.getElem?_cons_succ, List.set_cons_zero, List.set_cons_succ, List.cons_append, List.nil_append, List.replicate_succ, List.replicate_zero, Nat.reduceSub, Nat.reduceAdd, Nat.reduceLeDiff, if_true, if_false, Bool.false_eq_true, Bool.true_eq_false, Bool.not_true, Bool.not_false, Option.bind_some, Option.map_some, Nat.zero_add, ite_true, ite_false, Int.cast_ofNat_Int, Int.natCast_zero, Int.natCast_one, Int.reduceLT, Int.reduceLE, Int.reduceEq, Int.reduceAdd, Int.reduceSub, Int.reduceNeg, decide_true, decide_false, true_and, and_true, le_size, add_ll, add_tt, tuple_lst, tuple_tup, list_tup, list_lst, sl_tup, sl_lst, ii_non_int, ii_non_bool, ii_non_str, ii_non_tuple, ii_non_list, ii_non_dict, ii_bl_int, ii_bl_bool, ii_bl_str, ii_bl_tuple, ii_bl_list, ii_bl_dict, ii_int_int, ii_int_bool, ii_int_str, ii_int_tuple, ii_int_list, ii_int_dict, ii_str_int, ii_str_bool, ii_str_str, ii_str_tuple, ii_str_list, ii_str_dict, ii_tup_int, ii_tup_bool, ii_tup_str, ii_tup_tuple, ii_tup_list, ii_tup_dict, ii_lst_int, ii_lst_bool, ii_lst_str, ii_lst_tuple, ii_lst_list, ii_lst_dict, ii_fz_int, ii_fz_bool, ii_fz_str, ii_fz_tuple, ii_fz_list, ii_fz_dict]
  refine counted_wp h ?_
  simp only [wps, w_C, w_Var, k_Var, w_Bin, k_Bin1, k_Bin2, w_Tst, k_B, w_Chain, k_Ch1, k_Ch2, k_Ch3t, k_Ch3f, k_Ch4, w_And, w_Or, w_Not, k_Andt, k_Andf, k_Ort, k_Orf, k_Not, w_bAnd, w_bOr, w_bNot, w_bYes, k_bAndt, k_bAndf, k_bOrt, k_bOrf, k_bNot, w_dIf, k_dIft, k_dIff, w_aNil, w_aCons, k_Cons1, k_Cons2, w_Tup, w_Lst, w_Cell, k_Tup, k_Lst, k_Cell, w_Call, k_Call, w_CallF, k_CallF, w_CallN, k_CallN, k_New, k_AddN1, w_Un, k_Un, w_Sl, k_Sl1, k_Sl2, k_Sl3, w_No, w_So, k_So, w_iSeq, k_Items, w_Range1, w_Range2, k_Rng1, k_Rng2, w_iEnum, k_Enum, w_Comp, k_Comp, k_AsL, w_TupRg, w_LstRg, k_TupRg, k_LstRg, w_Rev, k_Rev, rev_tup, rev_lst, k_Di1, k_PT1, k_PT2, w_Nil, w_Nop, w_Fl, w_Seq, k_Seqn, k_Seqr, k_Seqb, k_Seqc, w_Expr, k_Drop, w_Ret, k_Ret, w_Set, k_Set, w_Asg, k_Asg1, k_Nx, w_If, k_Ift, k_Iff, w_For, k_For, k_Put1, k_Put2, w_Fun, w_Fun0, k_Funn, k_Funr, w_newK, w_newT, asB_bl, gN, gTupD, gsCons, gsNil, wipeE, itemsOf, seqItems, len_str, add_ii, sub_ii, neg_i, lt_ii, le_ii, gt_ii, ge_ii, eq_ii, ne_ii, eq_ss, ne_ss, isnot_bb, is_bb, is_non, isnot_non, isNonD, ix_tupD, ix_lstD, ix_fzD, at_lit0, at_lit1, at_lit2, at_lit3, len_fz, len_lst, len_tup, List.map_cons, List.map_nil, List.length_cons, List.length_nil, List.getElem?_cons_zero, List.getElem?_cons_succ, List.set_cons_zero, List.set_cons_succ, List.cons_append, List.nil_append, List.replicate_succ, List.replicate_zero, Nat.reduceSub, Nat.reduceAdd, Nat.reduceLeDiff, if_true, if_false, Bool.false_eq_true, Bool.true_eq_false, Bool.not_true, Bool.not_false, Option.bind_some, Option.map_some, Nat.zero_add, ite_true, ite_false, Int.cast_ofNat_Int, Int.natCast_zero, Int.natCast_one, Int.reduceLT, Int.reduceLE, Int.reduceEq, Int.reduceAdd, Int.reduceSub, Int.reduceNeg, decide_true, decide_false, true_and, and_true, le_size, add_ll, add_tt, tuple_lst, tuple_tup, list_tup, list_lst, sl_tup, sl_lst, ii_non_int, ii_non_bool, ii_non_str, ii_non_tuple, ii_non_list, ii_non_dict, ii_bl_int, ii_bl_bool, ii_bl_str, ii_bl_tuple, ii_bl_list, ii_bl_dict, ii_int_int, ii_int_bool, ii_int_str, ii_int_tuple, ii_int_list, ii_int_dict, ii_str_int, ii_str_bool, ii_str_str, ii_str_tuple, ii_str_list, ii_str_dict, ii_tup_int, ii_tup_bool, ii_tup_str, ii_tup_tuple, ii_tup_list, ii_tup_dict, ii_lst_int, ii_lst_bool, ii_lst_str, ii_lst_tuple, ii_lst_list, ii_lst_dict, ii_fz_int, ii_fz_bool, ii_fz_str, ii_fz_tuple, ii_fz_list, ii_fz_dict]
  exact kk
theorem sum_I {S : Sto} {xs : List Int} : oSum S [tupI xs] = some (.int xs.sum) := by
  unfold oSum orC
  have : oSumT S [tupI xs] = some (.int xs.sum) := by
    show (intsOf (xs.map D.int)).map _ = _
    rw [intsOf_map]
    rfl
  rw [this]
open Classical in
theorem none_left {S : Sto} {k : Int} {xs : List Int} {gs : List (List Int)} (h : ∀ ns, ns ∈ gs ↔ Grp k xs ns) : oEq S (.lst (gs.map tupI)) (.lst []) = some (.bl (decide (∀ ns, ¬ Grp k xs ns))) := by
  have e := eq_pl (S := S) (x := .lst (gs.map tupI)) (y := .lst []) rfl (plL_tupI 62 gs) rfl
  rw [e]
  congr 2
  refine decide_eq_decide.mpr ⟨fun q ns hg => ?_, fun q => ?_⟩
  · have := D.lst.inj q
    have hm := (h ns).mpr hg
    rw [List.map_eq_nil_iff.mp this] at hm
    cases hm
  · cases gs with
    | nil => rfl
    | cons g gs => exact absurd ((h g).mp List.mem_cons_self) (q g)

end G
end DL
end L2

set_option Elab.async false
set_option linter.all false
set_option maxRecDepth 100000
namespace L2
namespace DL
open PySem PySem.Spec PyProof.Rows
namespace G
/-! ### a list of counts looked at -/
def kvOf (t : List (List Int × D)) (stands : List (List Int)) : List (List Int × D) := stands.foldl (fun t s => putD t s (.bl true)) t
theorem putD_len {κ : Type} [DecidableEq κ] (kvs : List (κ × D)) (k : κ) (d : D) : (putD kvs k d).length ≤ kvs.length + 1 := by
  unfold putD
  split
  · rw [List.length_map]; omega
  · rw [List.length_append]; exact Nat.le_refl _
theorem kvOf_len : ∀ (stands : List (List Int)) (t : List (List Int × D)), (kvOf t stands).length ≤ t.length + stands.length
  | [], t => Nat.le_refl _
  | s :: stands, t => by
    have := kvOf_len stands (putD t s (.bl true))
    have := putD_len t s (.bl true)
    show (kvOf (putD t s (.bl true)) stands).length ≤ _
    rw [List.length_cons]
    omega
theorem known_wp {S : Sto} {e0 e1 e2 e3 e6 e7 e8 : Option D} {P : Fl × Ev → Sto → Prop} {stands : List (List Int)} {t : List (List Int × D)} : ∀ (e5 : Option D), t.length + stands.length ≤ 10000 →
    (∀ e5, P (.nx, [e0, e1, e2, e3, some (.ref S.length), e5, e6, e7, e8]) (S ++ [.dT (tabI (kvOf t stands))])) →
    Wp (forGo (gN 5) (sPutT (dVar 4) (dVar 5) (dC (.bl true))) (stands.map tupI) [e0, e1, e2, e3, some (.ref S.length), e5, e6, e7, e8] (S ++ [.dT (tabI t)])) P := by
  intro e5 hl k
  refine forGo_wp (fun rest env T => ∃ (left : List (List Int)) (u : List (List Int × D)) (e5 : Option D), rest = left.map tupI ∧ env = [e0, e1, e2, e3, some (.ref S.length), e5, e6, e7, e8] ∧ T = S ++ [.dT (tabI u)] ∧ kvOf t stands = kvOf u left ∧ u.length + left.length ≤ 10000) _ _ _
    ⟨stands, t, e5, rfl, rfl, rfl, rfl, hl⟩ (fun d rest env T hI => ?_) fun env T hI => ?_
  · obtain ⟨left, u, e5, e1', e, eT, hk, hu⟩ := hI
    cases left with
    | nil => cases e1'
    | cons s left =>
      obtain ⟨ed, er⟩ := List.cons.inj e1'
      subst e eT ed
      refine ⟨_, rfl, ?_⟩
      refine w_PutT ?_
      simp only [wps, w_C, w_Var, k_Var, w_Bin, k_Bin1, k_Bin2, w_Tst, k_B, w_Chain, k_Ch1, k_Ch2, k_Ch3t, k_Ch3f, k_Ch4, w_And, w_Or, w_Not, k_Andt, k_Andf, k_Ort, k_Orf, k_Not, w_bAnd, w_bOr, w_bNot, w_bYes, k_bAndt, k_bAndf, k_bOrt, k_bOrf, k_bNot, w_dIf, k_dIft, k_dIff, w_aNil, w_aCons, k_Cons1, k_Cons2, w_Tup, w_Lst, w_Cell, k_Tup, k_Lst, k_Cell, w_Call, k_Call, w_CallF, k_CallF, w_CallN, k_CallN, k_New, k_AddN1, w_Un, k_Un, w_Sl, k_Sl1, k_Sl2, k_Sl3, w_No, w_So, k_So, w_iSeq, k_Items, w_Range1, w_Range2, k_Rng1, k_Rng2, w_iEnum, k_Enum, w_Comp, k_Comp, k_AsL, w_TupRg, w_LstRg, k_TupRg, k_LstRg, w_Rev, k_Rev, rev_tup, rev_lst, k_Di1, k_PT1, k_PT2, w_Nil, w_Nop, w_Fl, w_Seq, k_Seqn, k_Seqr, k_Seqb, k_Seqc, w_Expr, k_Drop, w_Ret, k_Ret, w_Set, k_Set, w_Asg, k_Asg1, k_Nx, w_If, k_Ift, k_Iff, w_For, k_For, k_Put1, k_Put2, w_Fun, w_Fun0, k_Funn, k_Funr, w_newK, w_newT, asB_bl, gN, gTupD, gsCons, gsNil, wipeE, itemsOf, seqItems, len_str, add_ii, sub_ii, neg_i, lt_ii, le_ii, gt_ii, ge_ii, eq_ii, ne_ii, eq_ss, ne_ss, isnot_bb, is_bb, is_non, isnot_non, isNonD, ix_tupD, ix_lstD, ix_fzD, at_lit0, at_lit1, at_lit2, at_lit3, len_fz, len_lst, len_tup, List.map_cons, List.map_nil, List.length_cons, List.length_nil, List.getElem?_cons_zero, List.getElem?_cons_succ, List.set_cons_zero, List.set_cons_succ, List.cons_append, List.nil_append, List.replicate_succ, List.replicate_zero, Nat.reduceSub, Nat.reduceAdd, Nat.reduceLeDiff, if_true, if_false, Bool.false_eq_true, Bool.true_eq_false, Bool.not_true, Bool.not_false, Option.bind_some, Option.map_some, Nat.zero_add, ite_true, ite_false, Int.cast_ofNat_Int, Int.natCast_zero, Int.natCast_one, Int.reduceLT, Int.reduceLE, Int.reduceEq, Int.reduceAdd, Int.reduceSub, Int.reduceNeg, decide_true, decide_false, true_and, and_true, le_size, add_ll, add_tt, tuple_lst, tuple_tup, list_tup, list_lst, sl_tup, sl_lst, ii_non_int, ii_non_bool, ii_non_str, ii_non_tuple, ii_non_list, ii_non_dict, ii_bl_int, ii_bl_bool, ii_bl_str, ii_bl_tuple, ii_bl_list, ii_bl_dict, ii_int_int, ii_int_bool, ii_int_str, ii_int_tuple, ii_int_list, ii_int_dict, ii_str_int, ii_str_bool, ii_str_str, ii_str_tuple, ii_str_list, ii_str_dict, ii_tup_int, ii_tup_bool, ii_tup_str, ii_tup_tuple, ii_tup_list, ii_tup_dict, ii_lst_int, ii_lst_bool, ii_lst_str, ii_lst_tuple, ii_lst_list, ii_lst_dict, ii_fz_int, ii_fz_bool, ii_fz_str, ii_fz_tuple, ii_fz_list, ii_fz_dict]
      rw [List.length_cons] at hu
      refine ⟨_, putT_I (app_at _ _) s (.bl true) (by rw [sizeLine_eq]; omega), ?_⟩
      have := putD_len u s (.bl true)
      exact ⟨left, putD u s (.bl true), _, er, rfl, by simp, hk, by omega⟩
  · obtain ⟨left, u, e5, e1', e, eT, hk, hu⟩ := hI
    cases left with
    | cons s left => cases e1'
    | nil =>
      subst e eT
      rw [hk] at k
      exact k e5
def b04 (c : Int) : Bool := decide (0 ≤ c) && decide (c ≤ 4)
structure GoodS (k : Int) (n : Nat) (kvs : List (List Int × D)) (s : List Int) : Prop where
  len : s.length = n
  ent : ∀ c ∈ s, 0 ≤ c ∧ c ≤ 4
  go : (∀ ns, ¬ Grp k s ns) → ¬ 0 < s.sum
  all : ∀ ns, Grp k s ns → (valD kvs (behL ns 0 s)).isSome = true
open Classical in
noncomputable def everB (k : Int) (cs : List Int) (stands : List (List Int)) : Bool :=
  decide ((kvOf [] stands).length = stands.length ∧ (valD (kvOf [] stands) cs).isSome = true ∧ ∀ s ∈ stands, GoodS k cs.length (kvOf [] stands) s)
theorem ent_wp {S : Sto} {env : Ev} {s : List Int} {P : List D → Sto → Prop} {g : DG} {i : Nat} (hl : s.length ≤ 1000) (hg : ∀ c, ∃ env', g env (.int c) = some env' ∧ env'[i]? = some (some (.int c))) (k : P (s.map fun c => .bl (b04 c)) S) :
    Wp (compGo g env bYes (dChain oLe oLe (dC (.int 0)) (dVar i) (dC (.int 4))) (s.map D.int) [] S) P := by
  refine compGo_pure (fun d => .bl (b04 (asIntD d))) (by rw [List.length_map, sizeLine_eq]; omega) (fun d hd => ?_) ?_
  · obtain ⟨c, hc, e⟩ := List.mem_map.mp hd
    subst e
    obtain ⟨env', h1, h2⟩ := hg c
    refine ⟨env', h1, ?_⟩
    simp only [wps, w_C, w_Var, k_Var, w_Bin, k_Bin1, k_Bin2, w_Tst, k_B, w_Chain, k_Ch1, k_Ch2, k_Ch3t, k_Ch3f, k_Ch4, w_And, w_Or, w_Not, k_Andt, k_Andf, k_Ort, k_Orf, k_Not, w_bAnd, w_bOr, w_bNot, w_bYes, k_bAndt, k_bAndf, k_bOrt, k_bOrf, k_bNot, w_dIf, k_dIft, k_dIff, w_aNil, w_aCons, k_Cons1, k_Cons2, w_Tup, w_Lst, w_Cell, k_Tup, k_Lst, k_Cell, w_Call, k_Call, w_CallF, k_CallF, w_CallN, k_CallN, k_New, k_AddN1, w_Un, k_Un, w_Sl, k_Sl1, k_Sl2, k_Sl3, w_No, w_So, k_So, w_iSeq, k_Items, w_Range1, w_Range2, k_Rng1, k_Rng2, w_iEnum, k_Enum, w_Comp, k_Comp, k_AsL, w_TupRg, w_LstRg, k_TupRg, k_LstRg, w_Rev, k_Rev, rev_tup, rev_lst, k_Di1, k_PT1, k_PT2, w_Nil, w_Nop, w_Fl, w_Seq, k_Seqn, k_Seqr, k_Seqb, k_Seqc, w_Expr, k_Drop, w_Ret, k_Ret, w_Set, k_Set, w_Asg, k_Asg1, k_Nx, w_If, k_Ift, k_Iff, w_For, k_For, k_Put1, k_Put2, w_Fun, w_Fun0, k_Funn, k_Funr, w_newK, w_newT, asB_bl, gN, gTupD, gsCons, gsNil, wipeE, itemsOf, seqItems, len_str, add_ii, sub_ii, neg_i, lt_ii, le_ii, gt_ii, ge_ii, eq_ii, ne_ii, eq_ss, ne_ss, isnot_bb, is_bb, is_non, isnot_non, isNonD, ix_tupD, ix_lstD, ix_fzD, at_lit0, at_lit1, at_lit2, at_lit3, len_fz, len_lst, len_tup, List.map_cons, List.map_nil, List.length_cons, List.length_nil, List.getElem?_cons_zero, List.getElem?_cons_succ, List.set_cons_zero, List.set_cons_succ, List.cons_append, List.nil_append, List.replicate_succ, List.replicate_zero, Nat.reduceSub, Nat.reduceAdd, Nat.reduceLeDiff, if_true, if_false, Bool.false_eq_true, Bool.true_eq_false, Bool.not_true, Bool.not_false, Option.bind_some, Option.map_some, Nat.zero_add, ite_true, ite_false, Int.cast_ofNat_Int, Int.natCast_zero, Int.natCast_one, Int.reduceLT, Int.reduceLE, Int.reduceEq, Int.reduceAdd, Int.reduceSub, Int.reduceNeg, decide_true, decide_false, true_and, and_true, le_size, add_ll, add_tt, tuple_lst, tuple_tup, list_tup, list_lst, sl_tup, sl_lst, ii_non_int, ii_non_bool, ii_non_str, ii_non_tuple, ii_non_list, ii_non_dict, ii_bl_int, ii_bl_bool, ii_bl_str, ii_bl_tuple, ii_bl_list, ii_bl_dict, ii_int_int, ii_int_bool, ii_int_str, ii_int_tuple, ii_int_list, ii_int_dict, ii_str_int, ii_str_bool, ii_str_str, ii_str_tuple, ii_str_list, ii_str_dict, ii_tup_int, ii_tup_bool, ii_tup_str, ii_tup_tuple, ii_tup_list, ii_tup_dict, ii_lst_int, ii_lst_bool, ii_lst_str, ii_lst_tuple, ii_lst_list, ii_lst_dict, ii_fz_int, ii_fz_bool, ii_fz_str, ii_fz_tuple, ii_fz_list, ii_fz_dict, h2]
    refine k_Ch3d (fun h => ?_) fun h => ?_
    · simp only [wps, w_C, w_Var, k_Var, w_Bin, k_Bin1, k_Bin2, w_Tst, k_B, w_Chain, k_Ch1, k_Ch2, k_Ch3t, k_Ch3f, k_Ch4, w_And, w_Or, w_Not, k_Andt, k_Andf, k_Ort, k_Orf, k_Not, w_bAnd, w_bOr, w_bNot, w_bYes, k_bAndt, k_bAndf, k_bOrt, k_bOrf, k_bNot, w_dIf, k_dIft, k_dIff, w_aNil, w_aCons, k_Cons1, k_Cons2, w_Tup, w_Lst, w_Cell, k_Tup, k_Lst, k_Cell, w_Call, k_Call, w_CallF, k_CallF, w_CallN, k_CallN, k_New, k_AddN1, w_Un, k_Un, w_Sl, k_Sl1, k_Sl2, k_Sl3, w_No, w_So, k_So, w_iSeq, k_Items, w_Range1, w_Range2, k_Rng1, k_Rng2, w_iEnum, k_Enum, w_Comp, k_Comp, k_AsL, w_TupRg, w_LstRg, k_TupRg, k_LstRg, w_Rev, k_Rev, rev_tup, rev_lst, k_Di1, k_PT1, k_PT2, w_Nil, w_Nop, w_Fl, w_Seq, k_Seqn, k_Seqr, k_Seqb, k_Seqc, w_Expr, k_Drop, w_Ret, k_Ret, w_Set, k_Set, w_Asg, k_Asg1, k_Nx, w_If, k_Ift, k_Iff, w_For, k_For, k_Put1, k_Put2, w_Fun, w_Fun0, k_Funn, k_Funr, w_newK, w_newT, asB_bl, gN, gTupD, gsCons, gsNil, wipeE, itemsOf, seqItems, len_str, add_ii, sub_ii, neg_i, lt_ii, le_ii, gt_ii, ge_ii, eq_ii, ne_ii, eq_ss, ne_ss, isnot_bb, is_bb, is_non, isnot_non, isNonD, ix_tupD, ix_lstD, ix_fzD, at_lit0, at_lit1, at_lit2, at_lit3, len_fz, len_lst, len_tup, List.map_cons, List.map_nil, List.length_cons, List.length_nil, List.getElem?_cons_zero, List.getElem?_cons_succ, List.set_cons_zero, List.set_cons_succ, List.cons_append, List.nil_append, List.replicate_succ, List.replicate_zero, Nat.reduceSub, Nat.reduceAdd, Nat.reduceLeDiff, if_true, if_false, Bool.false_eq_true, Bool.true_eq_false, Bool.not_true, Bool.not_false, Option.bind_some, Option.map_some, Nat.zero_add, ite_true, ite_false, Int.cast_ofNat_Int, Int.natCast_zero, Int.natCast_one, Int.reduceLT, Int.reduceLE, Int.reduceEq, Int.reduceAdd, Int.reduceSub, Int.reduceNeg, decide_true, decide_false, true_and, and_true, le_size, add_ll, add_tt, tuple_lst, tuple_tup, list_tup, list_lst, sl_tup, sl_lst, ii_non_int, ii_non_bool, ii_non_str, ii_non_tuple, ii_non_list, ii_non_dict, ii_bl_int, ii_bl_bool, ii_bl_str, ii_bl_tuple, ii_bl_list, ii_bl_dict, ii_int_int, ii_int_bool, ii_int_str, ii_int_tuple, ii_int_list, ii_int_dict, ii_str_int, ii_str_bool, ii_str_str, ii_str_tuple, ii_str_list, ii_str_dict, ii_tup_int, ii_tup_bool, ii_tup_str, ii_tup_tuple, ii_tup_list, ii_tup_dict, ii_lst_int, ii_lst_bool, ii_lst_str, ii_lst_tuple, ii_lst_list, ii_lst_dict, ii_fz_int, ii_fz_bool, ii_fz_str, ii_fz_tuple, ii_fz_list, ii_fz_dict]
      show _ = D.bl (decide (0 ≤ c) && decide (c ≤ 4))
      rw [decide_eq_true h, Bool.true_and]
    · refine ⟨rfl, ?_⟩
      show _ = D.bl (decide (0 ≤ c) && decide (c ≤ 4))
      rw [decide_eq_false h, Bool.false_and]
  · have e : (s.map D.int).map (fun d => D.bl (b04 (asIntD d))) = s.map fun c => .bl (b04 c) := by rw [List.map_map]; rfl
    rw [e]
    exact k
theorem b04_all {s : List Int} : s.all b04 = true ↔ ∀ c ∈ s, 0 ≤ c ∧ c ≤ 4 := by
  rw [List.all_eq_true]
  refine ⟨fun h c hc => ?_, fun h c hc => ?_⟩
  · have := h c hc
    unfold b04 at this
    rw [Bool.and_eq_true, decide_eq_true_eq, decide_eq_true_eq] at this
    exact this
  · unfold b04
    rw [Bool.and_eq_true, decide_eq_true_eq, decide_eq_true_eq]
    exact h c hc
def inB (kvs : List (List Int × D)) (s : List Int) (d : D) : D := match intsT d with
  | some ns => .bl (valD kvs (behL ns 0 s)).isSome
  | none => .non
theorem inB_I (kvs : List (List Int × D)) (s ns : List Int) : inB kvs s (tupI ns) = .bl (valD kvs (behL ns 0 s)).isSome := by
  unfold inB
  rw [show intsT (tupI ns) = some ns from intsOf_map ns]
theorem frz_own {S : Sto} {c : Cell} : ∀ j d, j < S.length → (S ++ [c])[j]? = some d → S[j]? = some d ∨ ltC S.length d = true := fun j d hj e => .inl (by rw [List.getElem?_append_left hj] at e; exact e)
open Classical in
theorem ever_wp {S : Sto} {k : Int} {cs : List Int} {stands : List (List Int)} {P : D → Sto → Prop} {great : Bool} (h : MeetOk great k cs) (hs : stands.length ≤ 9000) (hl : ∀ s ∈ stands, s.length ≤ 1000) (kk : P (.bl (everB k cs stands)) S) :
    Wp (f_are_ever [.tup [.int k, .tup (cs.map D.int)], .lst (stands.map tupI)] S) P := by
  have hc5 := h.l5
  unfold f_are_ever d_are_ever
  refine wp_frz ?_
  -- what is wanted, at the end
  have fin : ∀ b, b = everB k cs stands → (∀ j d, j < S.length → (S ++ [.dT (tabI (kvOf [] stands))])[j]? = some d → S[j]? = some d ∨ ltC S.length d = true) ∧ ∃ e, mapD (rsv S.length (S ++ [.dT (tabI (kvOf [] stands))]) 64) (.bl b) = some e ∧ P e ((S ++ [Cell.dT (tabI (kvOf [] stands))]).take S.length) := fun b hb => by
    refine ⟨frz_own, .bl b, rfl, ?_⟩
    rw [take_app, hb]
    exact kk
  have no : ∀ x, x = false → everB k cs stands = false → x = everB k cs stands := fun x h1 h2 => h1.trans h2.symm
  simp only [wps, w_C, w_Var, k_Var, w_Bin, k_Bin1, k_Bin2, w_Tst, k_B, w_Chain, k_Ch1, k_Ch2, k_Ch3t, k_Ch3f, k_Ch4, w_And, w_Or, w_Not, k_Andt, k_Andf, k_Ort, k_Orf, k_Not, w_bAnd, w_bOr, w_bNot, w_bYes, k_bAndt, k_bAndf, k_bOrt, k_bOrf, k_bNot, w_dIf, k_dIft, k_dIff, w_aNil, w_aCons, k_Cons1, k_Cons2, w_Tup, w_Lst, w_Cell, k_Tup, k_Lst, k_Cell, w_Call, k_Call, w_CallF, k_CallF, w_CallN, k_CallN, k_New, k_AddN1, w_Un, k_Un, w_Sl, k_Sl1, k_Sl2, k_Sl3, w_No, w_So, k_So, w_iSeq, k_Items, w_Range1, w_Range2, k_Rng1, k_Rng2, w_iEnum, k_Enum, w_Comp, k_Comp, k_AsL, w_TupRg, w_LstRg, k_TupRg, k_LstRg, w_Rev, k_Rev, rev_tup, rev_lst, k_Di1, k_PT1, k_PT2, w_Nil, w_Nop, w_Fl, w_Seq, k_Seqn, k_Seqr, k_Seqb, k_Seqc, w_Expr, k_Drop, w_Ret, k_Ret, w_Set, k_Set, w_Asg, k_Asg1, k_Nx, w_If, k_Ift, k_Iff, w_For, k_For, k_Put1, k_Put2, w_Fun, w_Fun0, k_Funn, k_Funr, w_newK, w_newT, asB_bl, gN, gTupD, gsCons, gsNil, wipeE, itemsOf, seqItems, len_str, add_ii, sub_ii, neg_i, lt_ii, le_ii, gt_ii, ge_ii, eq_ii, ne_ii, eq_ss, ne_ss, isnot_bb, is_bb, is_non, isnot_non, isNonD, ix_tupD, ix_lstD, ix_fzD, at_lit0, at_lit1, at_lit2, at_lit3, len_fz, len_lst, len_tup, List.map_cons, List.map_nil, List.length_cons, List.length_nil, List.getElem?_cons_zero, List.getElem?_cons_succ, List.set_cons_zero, List.set_cons_succ, List.cons_append, List.nil_append, List.replicate_succ, List.replicate_zero, Nat.reduceSub, Nat.reduceAdd, Nat.reduceLeDiff, if_true, if_false, Bool.false_eq_true, Bool.true_eq_false, Bool.not_true, Bool.not_false, Option.bind_some, Option.map_some, Nat.zero_add, ite_true, ite_false, Int.cast_ofNat_Int, Int.natCast_zero, Int.natCast_one, Int.reduceLT, Int.reduceLE, Int.reduceEq, Int.reduceAdd, Int.reduceSub, Int.reduceNeg, decide_true, decide_false, true_and, and_true, le_size, add_ll, add_tt, tuple_lst, tuple_tup, list_tup, list_lst, sl_tup, sl_lst, ii_non_int, ii_non_bool, ii_non_str, ii_non_tuple, ii_non_list, ii_non_dict, ii_bl_int, ii_bl_bool, ii_bl_str, ii_bl_tuple, ii_bl_list, ii_bl_dict, ii_int_int, ii_int_bool, ii_int_str, ii_int_tuple, ii_int_list, ii_int_dict, ii_str_int, ii_str_bool, ii_str_str, ii_str_tuple, ii_str_list, ii_str_dict, ii_tup_int, ii_tup_bool, ii_tup_str, ii_tup_tuple, ii_tup_list, ii_tup_dict, ii_lst_int, ii_lst_bool, ii_lst_str, ii_lst_tuple, ii_lst_list, ii_lst_dict, ii_fz_int, ii_fz_bool, ii_fz_str, ii_fz_tuple, ii_fz_list, ii_fz_dict]
  refine need_wp h ?_
  simp only [wps, w_C, w_Var, k_Var, w_Bin, k_Bin1, k_Bin2, w_Tst, k_B, w_Chain, k_Ch1, k_Ch2, k_Ch3t, k_Ch3f, k_Ch4, w_And, w_Or, w_Not, k_Andt, k_Andf, k_Ort, k_Orf, k_Not, w_bAnd, w_bOr, w_bNot, w_bYes, k_bAndt, k_bAndf, k_bOrt, k_bOrf, k_bNot, w_dIf, k_dIft, k_dIff, w_aNil, w_aCons, k_Cons1, k_Cons2, w_Tup, w_Lst, w_Cell, k_Tup, k_Lst, k_Cell, w_Call, k_Call, w_CallF, k_CallF, w_CallN, k_CallN, k_New, k_AddN1, w_Un, k_Un, w_Sl, k_Sl1, k_Sl2, k_Sl3, w_No, w_So, k_So, w_iSeq, k_Items, w_Range1, w_Range2, k_Rng1, k_Rng2, w_iEnum, k_Enum, w_Comp, k_Comp, k_AsL, w_TupRg, w_LstRg, k_TupRg, k_LstRg, w_Rev, k_Rev, rev_tup, rev_lst, k_Di1, k_PT1, k_PT2, w_Nil, w_Nop, w_Fl, w_Seq, k_Seqn, k_Seqr, k_Seqb, k_Seqc, w_Expr, k_Drop, w_Ret, k_Ret, w_Set, k_Set, w_Asg, k_Asg1, k_Nx, w_If, k_Ift, k_Iff, w_For, k_For, k_Put1, k_Put2, w_Fun, w_Fun0, k_Funn, k_Funr, w_newK, w_newT, asB_bl, gN, gTupD, gsCons, gsNil, wipeE, itemsOf, seqItems, len_str, add_ii, sub_ii, neg_i, lt_ii, le_ii, gt_ii, ge_ii, eq_ii, ne_ii, eq_ss, ne_ss, isnot_bb, is_bb, is_non, isnot_non, isNonD, ix_tupD, ix_lstD, ix_fzD, at_lit0, at_lit1, at_lit2, at_lit3, len_fz, len_lst, len_tup, List.map_cons, List.map_nil, List.length_cons, List.length_nil, List.getElem?_cons_zero, List.getElem?_cons_succ, List.set_cons_zero, List.set_cons_succ, List.cons_append, List.nil_append, List.replicate_succ, List.replicate_zero, Nat.reduceSub, Nat.reduceAdd, Nat.reduceLeDiff, if_true, if_false, Bool.false_eq_true, Bool.true_eq_false, Bool.not_true, Bool.not_false, Option.bind_some, Option.map_some, Nat.zero_add, ite_true, ite_false, Int.cast_ofNat_Int, Int.natCast_zero, Int.natCast_one, Int.reduceLT, Int.reduceLE, Int.reduceEq, Int.reduceAdd, Int.reduceSub, Int.reduceNeg, decide_true, decide_false, true_and, and_true, le_size, add_ll, add_tt, tuple_lst, tuple_tup, list_tup, list_lst, sl_tup, sl_lst, ii_non_int, ii_non_bool, ii_non_str, ii_non_tuple, ii_non_list, ii_non_dict, ii_bl_int, ii_bl_bool, ii_bl_str, ii_bl_tuple, ii_bl_list, ii_bl_dict, ii_int_int, ii_int_bool, ii_int_str, ii_int_tuple, ii_int_list, ii_int_dict, ii_str_int, ii_str_bool, ii_str_str, ii_str_tuple, ii_str_list, ii_str_dict, ii_tup_int, ii_tup_bool, ii_tup_str, ii_tup_tuple, ii_tup_list, ii_tup_dict, ii_lst_int, ii_lst_bool, ii_lst_str, ii_lst_tuple, ii_lst_list, ii_lst_dict, ii_fz_int, ii_fz_bool, ii_fz_str, ii_fz_tuple, ii_fz_list, ii_fz_dict]
  refine known_wp (t := []) (stands := stands) none (by show 0 + stands.length ≤ 10000; omega) fun e5 => ?_
  have hT : (S ++ [Cell.dT (tabI (kvOf [] stands))])[S.length]? = some (.dT (tabI (kvOf [] stands))) := app_at _ _
  generalize hkv : kvOf [] stands = kvs at hT fin ⊢
  generalize S ++ [Cell.dT (tabI kvs)] = T at hT fin ⊢
  have hcs : oInT true T (.tup (cs.map D.int)) (.ref S.length) = some (.bl (true ^^ (valD kvs cs).isSome)) := inT_I hT true cs
  simp only [wps, w_C, w_Var, k_Var, w_Bin, k_Bin1, k_Bin2, w_Tst, k_B, w_Chain, k_Ch1, k_Ch2, k_Ch3t, k_Ch3f, k_Ch4, w_And, w_Or, w_Not, k_Andt, k_Andf, k_Ort, k_Orf, k_Not, w_bAnd, w_bOr, w_bNot, w_bYes, k_bAndt, k_bAndf, k_bOrt, k_bOrf, k_bNot, w_dIf, k_dIft, k_dIff, w_aNil, w_aCons, k_Cons1, k_Cons2, w_Tup, w_Lst, w_Cell, k_Tup, k_Lst, k_Cell, w_Call, k_Call, w_CallF, k_CallF, w_CallN, k_CallN, k_New, k_AddN1, w_Un, k_Un, w_Sl, k_Sl1, k_Sl2, k_Sl3, w_No, w_So, k_So, w_iSeq, k_Items, w_Range1, w_Range2, k_Rng1, k_Rng2, w_iEnum, k_Enum, w_Comp, k_Comp, k_AsL, w_TupRg, w_LstRg, k_TupRg, k_LstRg, w_Rev, k_Rev, rev_tup, rev_lst, k_Di1, k_PT1, k_PT2, w_Nil, w_Nop, w_Fl, w_Seq, k_Seqn, k_Seqr, k_Seqb, k_Seqc, w_Expr, k_Drop, w_Ret, k_Ret, w_Set, k_Set, w_Asg, k_Asg1, k_Nx, w_If, k_Ift, k_Iff, w_For, k_For, k_Put1, k_Put2, w_Fun, w_Fun0, k_Funn, k_Funr, w_newK, w_newT, asB_bl, gN, gTupD, gsCons, gsNil, wipeE, itemsOf, seqItems, len_str, add_ii, sub_ii, neg_i, lt_ii, le_ii, gt_ii, ge_ii, eq_ii, ne_ii, eq_ss, ne_ss, isnot_bb, is_bb, is_non, isnot_non, isNonD, ix_tupD, ix_lstD, ix_fzD, at_lit0, at_lit1, at_lit2, at_lit3, len_fz, len_lst, len_tup, List.map_cons, List.map_nil, List.length_cons, List.length_nil, List.getElem?_cons_zero, List.getElem?_cons_succ, List.set_cons_zero, List.set_cons_succ, List.cons_append, List.nil_append, List.replicate_succ, List.replicate_zero, Nat.reduceSub, Nat.reduceAdd, Nat.reduceLeDiff, if_true, if_false, Bool.false_eq_true, Bool.true_eq_false, Bool.not_true, Bool.not_false, Option.bind_some, Option.map_some, Nat.zero_add, ite_true, ite_false, Int.cast_ofNat_Int, Int.natCast_zero, Int.natCast_one, Int.reduceLT, Int.reduceLE, Int.reduceEq, Int.reduceAdd, Int.reduceSub, Int.reduceNeg, decide_true, decide_false, true_and, and_true, le_size, add_ll, add_tt, tuple_lst, tuple_tup, list_tup, list_lst, sl_tup, sl_lst, ii_non_int, ii_non_bool, ii_non_str, ii_non_tuple, ii_non_list, ii_non_dict, ii_bl_int, ii_bl_bool, ii_bl_str, ii_bl_tuple, ii_bl_list, ii_bl_dict, ii_int_int, ii_int_bool, ii_int_str, ii_int_tuple, ii_int_list, ii_int_dict, ii_str_int, ii_str_bool, ii_str_str, ii_str_tuple, ii_str_list, ii_str_dict, ii_tup_int, ii_tup_bool, ii_tup_str, ii_tup_tuple, ii_tup_list, ii_tup_dict, ii_lst_int, ii_lst_bool, ii_lst_str, ii_lst_tuple, ii_lst_list, ii_lst_dict, ii_fz_int, ii_fz_bool, ii_fz_str, ii_fz_tuple, ii_fz_list, ii_fz_dict, lenT_I hT, List.length_map]
  refine k_bOrc (fun c => ?_) fun c => ?_
  · simp only [wps, w_C, w_Var, k_Var, w_Bin, k_Bin1, k_Bin2, w_Tst, k_B, w_Chain, k_Ch1, k_Ch2, k_Ch3t, k_Ch3f, k_Ch4, w_And, w_Or, w_Not, k_Andt, k_Andf, k_Ort, k_Orf, k_Not, w_bAnd, w_bOr, w_bNot, w_bYes, k_bAndt, k_bAndf, k_bOrt, k_bOrf, k_bNot, w_dIf, k_dIft, k_dIff, w_aNil, w_aCons, k_Cons1, k_Cons2, w_Tup, w_Lst, w_Cell, k_Tup, k_Lst, k_Cell, w_Call, k_Call, w_CallF, k_CallF, w_CallN, k_CallN, k_New, k_AddN1, w_Un, k_Un, w_Sl, k_Sl1, k_Sl2, k_Sl3, w_No, w_So, k_So, w_iSeq, k_Items, w_Range1, w_Range2, k_Rng1, k_Rng2, w_iEnum, k_Enum, w_Comp, k_Comp, k_AsL, w_TupRg, w_LstRg, k_TupRg, k_LstRg, w_Rev, k_Rev, rev_tup, rev_lst, k_Di1, k_PT1, k_PT2, w_Nil, w_Nop, w_Fl, w_Seq, k_Seqn, k_Seqr, k_Seqb, k_Seqc, w_Expr, k_Drop, w_Ret, k_Ret, w_Set, k_Set, w_Asg, k_Asg1, k_Nx, w_If, k_Ift, k_Iff, w_For, k_For, k_Put1, k_Put2, w_Fun, w_Fun0, k_Funn, k_Funr, w_newK, w_newT, asB_bl, gN, gTupD, gsCons, gsNil, wipeE, itemsOf, seqItems, len_str, add_ii, sub_ii, neg_i, lt_ii, le_ii, gt_ii, ge_ii, eq_ii, ne_ii, eq_ss, ne_ss, isnot_bb, is_bb, is_non, isnot_non, isNonD, ix_tupD, ix_lstD, ix_fzD, at_lit0, at_lit1, at_lit2, at_lit3, len_fz, len_lst, len_tup, List.map_cons, List.map_nil, List.length_cons, List.length_nil, List.getElem?_cons_zero, List.getElem?_cons_succ, List.set_cons_zero, List.set_cons_succ, List.cons_append, List.nil_append, List.replicate_succ, List.replicate_zero, Nat.reduceSub, Nat.reduceAdd, Nat.reduceLeDiff, if_true, if_false, Bool.false_eq_true, Bool.true_eq_false, Bool.not_true, Bool.not_false, Option.bind_some, Option.map_some, Nat.zero_add, ite_true, ite_false, Int.cast_ofNat_Int, Int.natCast_zero, Int.natCast_one, Int.reduceLT, Int.reduceLE, Int.reduceEq, Int.reduceAdd, Int.reduceSub, Int.reduceNeg, decide_true, decide_false, true_and, and_true, le_size, add_ll, add_tt, tuple_lst, tuple_tup, list_tup, list_lst, sl_tup, sl_lst, ii_non_int, ii_non_bool, ii_non_str, ii_non_tuple, ii_non_list, ii_non_dict, ii_bl_int, ii_bl_bool, ii_bl_str, ii_bl_tuple, ii_bl_list, ii_bl_dict, ii_int_int, ii_int_bool, ii_int_str, ii_int_tuple, ii_int_list, ii_int_dict, ii_str_int, ii_str_bool, ii_str_str, ii_str_tuple, ii_str_list, ii_str_dict, ii_tup_int, ii_tup_bool, ii_tup_str, ii_tup_tuple, ii_tup_list, ii_tup_dict, ii_lst_int, ii_lst_bool, ii_lst_str, ii_lst_tuple, ii_lst_list, ii_lst_dict, ii_fz_int, ii_fz_bool, ii_fz_str, ii_fz_tuple, ii_fz_list, ii_fz_dict]
    refine fin _ (no _ rfl (decide_eq_false fun z => ?_))
    have z1 := z.1
    rw [hkv] at z1
    rw [z1] at c
    simp at c
  have hlen : kvs.length = stands.length := by
    have : ((kvs.length : Nat) : Int) = stands.length := by simpa using c
    omega
  simp only [wps, w_C, w_Var, k_Var, w_Bin, k_Bin1, k_Bin2, w_Tst, k_B, w_Chain, k_Ch1, k_Ch2, k_Ch3t, k_Ch3f, k_Ch4, w_And, w_Or, w_Not, k_Andt, k_Andf, k_Ort, k_Orf, k_Not, w_bAnd, w_bOr, w_bNot, w_bYes, k_bAndt, k_bAndf, k_bOrt, k_bOrf, k_bNot, w_dIf, k_dIft, k_dIff, w_aNil, w_aCons, k_Cons1, k_Cons2, w_Tup, w_Lst, w_Cell, k_Tup, k_Lst, k_Cell, w_Call, k_Call, w_CallF, k_CallF, w_CallN, k_CallN, k_New, k_AddN1, w_Un, k_Un, w_Sl, k_Sl1, k_Sl2, k_Sl3, w_No, w_So, k_So, w_iSeq, k_Items, w_Range1, w_Range2, k_Rng1, k_Rng2, w_iEnum, k_Enum, w_Comp, k_Comp, k_AsL, w_TupRg, w_LstRg, k_TupRg, k_LstRg, w_Rev, k_Rev, rev_tup, rev_lst, k_Di1, k_PT1, k_PT2, w_Nil, w_Nop, w_Fl, w_Seq, k_Seqn, k_Seqr, k_Seqb, k_Seqc, w_Expr, k_Drop, w_Ret, k_Ret, w_Set, k_Set, w_Asg, k_Asg1, k_Nx, w_If, k_Ift, k_Iff, w_For, k_For, k_Put1, k_Put2, w_Fun, w_Fun0, k_Funn, k_Funr, w_newK, w_newT, asB_bl, gN, gTupD, gsCons, gsNil, wipeE, itemsOf, seqItems, len_str, add_ii, sub_ii, neg_i, lt_ii, le_ii, gt_ii, ge_ii, eq_ii, ne_ii, eq_ss, ne_ss, isnot_bb, is_bb, is_non, isnot_non, isNonD, ix_tupD, ix_lstD, ix_fzD, at_lit0, at_lit1, at_lit2, at_lit3, len_fz, len_lst, len_tup, List.map_cons, List.map_nil, List.length_cons, List.length_nil, List.getElem?_cons_zero, List.getElem?_cons_succ, List.set_cons_zero, List.set_cons_succ, List.cons_append, List.nil_append, List.replicate_succ, List.replicate_zero, Nat.reduceSub, Nat.reduceAdd, Nat.reduceLeDiff, if_true, if_false, Bool.false_eq_true, Bool.true_eq_false, Bool.not_true, Bool.not_false, Option.bind_some, Option.map_some, Nat.zero_add, ite_true, ite_false, Int.cast_ofNat_Int, Int.natCast_zero, Int.natCast_one, Int.reduceLT, Int.reduceLE, Int.reduceEq, Int.reduceAdd, Int.reduceSub, Int.reduceNeg, decide_true, decide_false, true_and, and_true, le_size, add_ll, add_tt, tuple_lst, tuple_tup, list_tup, list_lst, sl_tup, sl_lst, ii_non_int, ii_non_bool, ii_non_str, ii_non_tuple, ii_non_list, ii_non_dict, ii_bl_int, ii_bl_bool, ii_bl_str, ii_bl_tuple, ii_bl_list, ii_bl_dict, ii_int_int, ii_int_bool, ii_int_str, ii_int_tuple, ii_int_list, ii_int_dict, ii_str_int, ii_str_bool, ii_str_str, ii_str_tuple, ii_str_list, ii_str_dict, ii_tup_int, ii_tup_bool, ii_tup_str, ii_tup_tuple, ii_tup_list, ii_tup_dict, ii_lst_int, ii_lst_bool, ii_lst_str, ii_lst_tuple, ii_lst_list, ii_lst_dict, ii_fz_int, ii_fz_bool, ii_fz_str, ii_fz_tuple, ii_fz_list, ii_fz_dict, hcs]
  refine k_Ifc (fun c2 => ?_) fun c2 => ?_
  · simp only [wps, w_C, w_Var, k_Var, w_Bin, k_Bin1, k_Bin2, w_Tst, k_B, w_Chain, k_Ch1, k_Ch2, k_Ch3t, k_Ch3f, k_Ch4, w_And, w_Or, w_Not, k_Andt, k_Andf, k_Ort, k_Orf, k_Not, w_bAnd, w_bOr, w_bNot, w_bYes, k_bAndt, k_bAndf, k_bOrt, k_bOrf, k_bNot, w_dIf, k_dIft, k_dIff, w_aNil, w_aCons, k_Cons1, k_Cons2, w_Tup, w_Lst, w_Cell, k_Tup, k_Lst, k_Cell, w_Call, k_Call, w_CallF, k_CallF, w_CallN, k_CallN, k_New, k_AddN1, w_Un, k_Un, w_Sl, k_Sl1, k_Sl2, k_Sl3, w_No, w_So, k_So, w_iSeq, k_Items, w_Range1, w_Range2, k_Rng1, k_Rng2, w_iEnum, k_Enum, w_Comp, k_Comp, k_AsL, w_TupRg, w_LstRg, k_TupRg, k_LstRg, w_Rev, k_Rev, rev_tup, rev_lst, k_Di1, k_PT1, k_PT2, w_Nil, w_Nop, w_Fl, w_Seq, k_Seqn, k_Seqr, k_Seqb, k_Seqc, w_Expr, k_Drop, w_Ret, k_Ret, w_Set, k_Set, w_Asg, k_Asg1, k_Nx, w_If, k_Ift, k_Iff, w_For, k_For, k_Put1, k_Put2, w_Fun, w_Fun0, k_Funn, k_Funr, w_newK, w_newT, asB_bl, gN, gTupD, gsCons, gsNil, wipeE, itemsOf, seqItems, len_str, add_ii, sub_ii, neg_i, lt_ii, le_ii, gt_ii, ge_ii, eq_ii, ne_ii, eq_ss, ne_ss, isnot_bb, is_bb, is_non, isnot_non, isNonD, ix_tupD, ix_lstD, ix_fzD, at_lit0, at_lit1, at_lit2, at_lit3, len_fz, len_lst, len_tup, List.map_cons, List.map_nil, List.length_cons, List.length_nil, List.getElem?_cons_zero, List.getElem?_cons_succ, List.set_cons_zero, List.set_cons_succ, List.cons_append, List.nil_append, List.replicate_succ, List.replicate_zero, Nat.reduceSub, Nat.reduceAdd, Nat.reduceLeDiff, if_true, if_false, Bool.false_eq_true, Bool.true_eq_false, Bool.not_true, Bool.not_false, Option.bind_some, Option.map_some, Nat.zero_add, ite_true, ite_false, Int.cast_ofNat_Int, Int.natCast_zero, Int.natCast_one, Int.reduceLT, Int.reduceLE, Int.reduceEq, Int.reduceAdd, Int.reduceSub, Int.reduceNeg, decide_true, decide_false, true_and, and_true, le_size, add_ll, add_tt, tuple_lst, tuple_tup, list_tup, list_lst, sl_tup, sl_lst, ii_non_int, ii_non_bool, ii_non_str, ii_non_tuple, ii_non_list, ii_non_dict, ii_bl_int, ii_bl_bool, ii_bl_str, ii_bl_tuple, ii_bl_list, ii_bl_dict, ii_int_int, ii_int_bool, ii_int_str, ii_int_tuple, ii_int_list, ii_int_dict, ii_str_int, ii_str_bool, ii_str_str, ii_str_tuple, ii_str_list, ii_str_dict, ii_tup_int, ii_tup_bool, ii_tup_str, ii_tup_tuple, ii_tup_list, ii_tup_dict, ii_lst_int, ii_lst_bool, ii_lst_str, ii_lst_tuple, ii_lst_list, ii_lst_dict, ii_fz_int, ii_fz_bool, ii_fz_str, ii_fz_tuple, ii_fz_list, ii_fz_dict]
    refine fin _ (no _ rfl (decide_eq_false fun z => ?_))
    rw [hkv] at z
    rw [z.2.1] at c2
    cases c2
  have hin : (valD kvs cs).isSome = true := by simpa using c2
  simp only [wps, w_C, w_Var, k_Var, w_Bin, k_Bin1, k_Bin2, w_Tst, k_B, w_Chain, k_Ch1, k_Ch2, k_Ch3t, k_Ch3f, k_Ch4, w_And, w_Or, w_Not, k_Andt, k_Andf, k_Ort, k_Orf, k_Not, w_bAnd, w_bOr, w_bNot, w_bYes, k_bAndt, k_bAndf, k_bOrt, k_bOrf, k_bNot, w_dIf, k_dIft, k_dIff, w_aNil, w_aCons, k_Cons1, k_Cons2, w_Tup, w_Lst, w_Cell, k_Tup, k_Lst, k_Cell, w_Call, k_Call, w_CallF, k_CallF, w_CallN, k_CallN, k_New, k_AddN1, w_Un, k_Un, w_Sl, k_Sl1, k_Sl2, k_Sl3, w_No, w_So, k_So, w_iSeq, k_Items, w_Range1, w_Range2, k_Rng1, k_Rng2, w_iEnum, k_Enum, w_Comp, k_Comp, k_AsL, w_TupRg, w_LstRg, k_TupRg, k_LstRg, w_Rev, k_Rev, rev_tup, rev_lst, k_Di1, k_PT1, k_PT2, w_Nil, w_Nop, w_Fl, w_Seq, k_Seqn, k_Seqr, k_Seqb, k_Seqc, w_Expr, k_Drop, w_Ret, k_Ret, w_Set, k_Set, w_Asg, k_Asg1, k_Nx, w_If, k_Ift, k_Iff, w_For, k_For, k_Put1, k_Put2, w_Fun, w_Fun0, k_Funn, k_Funr, w_newK, w_newT, asB_bl, gN, gTupD, gsCons, gsNil, wipeE, itemsOf, seqItems, len_str, add_ii, sub_ii, neg_i, lt_ii, le_ii, gt_ii, ge_ii, eq_ii, ne_ii, eq_ss, ne_ss, isnot_bb, is_bb, is_non, isnot_non, isNonD, ix_tupD, ix_lstD, ix_fzD, at_lit0, at_lit1, at_lit2, at_lit3, len_fz, len_lst, len_tup, List.map_cons, List.map_nil, List.length_cons, List.length_nil, List.getElem?_cons_zero, List.getElem?_cons_succ, List.set_cons_zero, List.set_cons_succ, List.cons_append, List.nil_append, List.replicate_succ, List.replicate_zero, Nat.reduceSub, Nat.reduceAdd, Nat.reduceLeDiff, if_true, if_false, Bool.false_eq_true, Bool.true_eq_false, Bool.not_true, Bool.not_false, Option.bind_some, Option.map_some, Nat.zero_add, ite_true, ite_false, Int.cast_ofNat_Int, Int.natCast_zero, Int.natCast_one, Int.reduceLT, Int.reduceLE, Int.reduceEq, Int.reduceAdd, Int.reduceSub, Int.reduceNeg, decide_true, decide_false, true_and, and_true, le_size, add_ll, add_tt, tuple_lst, tuple_tup, list_tup, list_lst, sl_tup, sl_lst, ii_non_int, ii_non_bool, ii_non_str, ii_non_tuple, ii_non_list, ii_non_dict, ii_bl_int, ii_bl_bool, ii_bl_str, ii_bl_tuple, ii_bl_list, ii_bl_dict, ii_int_int, ii_int_bool, ii_int_str, ii_int_tuple, ii_int_list, ii_int_dict, ii_str_int, ii_str_bool, ii_str_str, ii_str_tuple, ii_str_list, ii_str_dict, ii_tup_int, ii_tup_bool, ii_tup_str, ii_tup_tuple, ii_tup_list, ii_tup_dict, ii_lst_int, ii_lst_bool, ii_lst_str, ii_lst_tuple, ii_lst_list, ii_lst_dict, ii_fz_int, ii_fz_bool, ii_fz_str, ii_fz_tuple, ii_fz_list, ii_fz_dict]
  refine forGo_wp (fun rest env U => ∃ (left : List (List Int)) (e5 e6 e7 e8 : Option D), rest = left.map tupI ∧ env = [some (.tup [.int k, .tup (cs.map D.int)]), some (.lst (stands.map tupI)), some (.int k), some (.tup (cs.map D.int)), some (.ref S.length), e5, e6, e7, e8] ∧ U = T ∧ (∀ s ∈ left, s ∈ stands) ∧ ∀ s ∈ stands, s ∈ left ∨ GoodS k cs.length kvs s) _ _ _
    ⟨stands, _, _, _, _, rfl, rfl, rfl, fun _ h => h, fun _ h => .inl h⟩ (fun d rest env U hI => ?_) fun env U hI => ?_
  · obtain ⟨left, e5, e6, e7, e8, e1, e, eU, hsub, hgood⟩ := hI
    cases left with
    | nil => cases e1
    | cons s left =>
      obtain ⟨ed, er⟩ := List.cons.inj e1
      subst e eU ed
      have hms := hsub s List.mem_cons_self
      have hsl := hl s hms
      have bad : ¬ GoodS k cs.length kvs s → everB k cs stands = false := fun hb => decide_eq_false fun z => hb (by rw [← hkv]; exact z.2.2 s hms)
      refine ⟨_, rfl, ?_⟩
      have hlenS : oLen U [tupI s] = some (.int s.length) := by show some (D.int ((s.map D.int).length : Nat)) = _; rw [List.length_map]
      simp only [wps, w_C, w_Var, k_Var, w_Bin, k_Bin1, k_Bin2, w_Tst, k_B, w_Chain, k_Ch1, k_Ch2, k_Ch3t, k_Ch3f, k_Ch4, w_And, w_Or, w_Not, k_Andt, k_Andf, k_Ort, k_Orf, k_Not, w_bAnd, w_bOr, w_bNot, w_bYes, k_bAndt, k_bAndf, k_bOrt, k_bOrf, k_bNot, w_dIf, k_dIft, k_dIff, w_aNil, w_aCons, k_Cons1, k_Cons2, w_Tup, w_Lst, w_Cell, k_Tup, k_Lst, k_Cell, w_Call, k_Call, w_CallF, k_CallF, w_CallN, k_CallN, k_New, k_AddN1, w_Un, k_Un, w_Sl, k_Sl1, k_Sl2, k_Sl3, w_No, w_So, k_So, w_iSeq, k_Items, w_Range1, w_Range2, k_Rng1, k_Rng2, w_iEnum, k_Enum, w_Comp, k_Comp, k_AsL, w_TupRg, w_LstRg, k_TupRg, k_LstRg, w_Rev, k_Rev, rev_tup, rev_lst, k_Di1, k_PT1, k_PT2, w_Nil, w_Nop, w_Fl, w_Seq, k_Seqn, k_Seqr, k_Seqb, k_Seqc, w_Expr, k_Drop, w_Ret, k_Ret, w_Set, k_Set, w_Asg, k_Asg1, k_Nx, w_If, k_Ift, k_Iff, w_For, k_For, k_Put1, k_Put2, w_Fun, w_Fun0, k_Funn, k_Funr, w_newK, w_newT, asB_bl, gN, gTupD, gsCons, gsNil, wipeE, itemsOf, seqItems, len_str, add_ii, sub_ii, neg_i, lt_ii, le_ii, gt_ii, ge_ii, eq_ii, ne_ii, eq_ss, ne_ss, isnot_bb, is_bb, is_non, isnot_non, isNonD, ix_tupD, ix_lstD, ix_fzD, at_lit0, at_lit1, at_lit2, at_lit3, len_fz, len_lst, len_tup, List.map_cons, List.map_nil, List.length_cons, List.length_nil, List.getElem?_cons_zero, List.getElem?_cons_succ, List.set_cons_zero, List.set_cons_succ, List.cons_append, List.nil_append, List.replicate_succ, List.replicate_zero, Nat.reduceSub, Nat.reduceAdd, Nat.reduceLeDiff, if_true, if_false, Bool.false_eq_true, Bool.true_eq_false, Bool.not_true, Bool.not_false, Option.bind_some, Option.map_some, Nat.zero_add, ite_true, ite_false, Int.cast_ofNat_Int, Int.natCast_zero, Int.natCast_one, Int.reduceLT, Int.reduceLE, Int.reduceEq, Int.reduceAdd, Int.reduceSub, Int.reduceNeg, decide_true, decide_false, true_and, and_true, le_size, add_ll, add_tt, tuple_lst, tuple_tup, list_tup, list_lst, sl_tup, sl_lst, ii_non_int, ii_non_bool, ii_non_str, ii_non_tuple, ii_non_list, ii_non_dict, ii_bl_int, ii_bl_bool, ii_bl_str, ii_bl_tuple, ii_bl_list, ii_bl_dict, ii_int_int, ii_int_bool, ii_int_str, ii_int_tuple, ii_int_list, ii_int_dict, ii_str_int, ii_str_bool, ii_str_str, ii_str_tuple, ii_str_list, ii_str_dict, ii_tup_int, ii_tup_bool, ii_tup_str, ii_tup_tuple, ii_tup_list, ii_tup_dict, ii_lst_int, ii_lst_bool, ii_lst_str, ii_lst_tuple, ii_lst_list, ii_lst_dict, ii_fz_int, ii_fz_bool, ii_fz_str, ii_fz_tuple, ii_fz_list, ii_fz_dict, hlenS, List.length_map]
      refine k_bOrc (fun c => ?_) fun c => ?_
      · simp only [wps, w_C, w_Var, k_Var, w_Bin, k_Bin1, k_Bin2, w_Tst, k_B, w_Chain, k_Ch1, k_Ch2, k_Ch3t, k_Ch3f, k_Ch4, w_And, w_Or, w_Not, k_Andt, k_Andf, k_Ort, k_Orf, k_Not, w_bAnd, w_bOr, w_bNot, w_bYes, k_bAndt, k_bAndf, k_bOrt, k_bOrf, k_bNot, w_dIf, k_dIft, k_dIff, w_aNil, w_aCons, k_Cons1, k_Cons2, w_Tup, w_Lst, w_Cell, k_Tup, k_Lst, k_Cell, w_Call, k_Call, w_CallF, k_CallF, w_CallN, k_CallN, k_New, k_AddN1, w_Un, k_Un, w_Sl, k_Sl1, k_Sl2, k_Sl3, w_No, w_So, k_So, w_iSeq, k_Items, w_Range1, w_Range2, k_Rng1, k_Rng2, w_iEnum, k_Enum, w_Comp, k_Comp, k_AsL, w_TupRg, w_LstRg, k_TupRg, k_LstRg, w_Rev, k_Rev, rev_tup, rev_lst, k_Di1, k_PT1, k_PT2, w_Nil, w_Nop, w_Fl, w_Seq, k_Seqn, k_Seqr, k_Seqb, k_Seqc, w_Expr, k_Drop, w_Ret, k_Ret, w_Set, k_Set, w_Asg, k_Asg1, k_Nx, w_If, k_Ift, k_Iff, w_For, k_For, k_Put1, k_Put2, w_Fun, w_Fun0, k_Funn, k_Funr, w_newK, w_newT, asB_bl, gN, gTupD, gsCons, gsNil, wipeE, itemsOf, seqItems, len_str, add_ii, sub_ii, neg_i, lt_ii, le_ii, gt_ii, ge_ii, eq_ii, ne_ii, eq_ss, ne_ss, isnot_bb, is_bb, is_non, isnot_non, isNonD, ix_tupD, ix_lstD, ix_fzD, at_lit0, at_lit1, at_lit2, at_lit3, len_fz, len_lst, len_tup, List.map_cons, List.map_nil, List.length_cons, List.length_nil, List.getElem?_cons_zero, List.getElem?_cons_succ, List.set_cons_zero, List.set_cons_succ, List.cons_append, List.nil_append, List.replicate_succ, List.replicate_zero, Nat.reduceSub, Nat.reduceAdd, Nat.reduceLeDiff, if_true, if_false, Bool.false_eq_true, Bool.true_eq_false, Bool.not_true, Bool.not_false, Option.bind_some, Option.map_some, Nat.zero_add, ite_true, ite_false, Int.cast_ofNat_Int, Int.natCast_zero, Int.natCast_one, Int.reduceLT, Int.reduceLE, Int.reduceEq, Int.reduceAdd, Int.reduceSub, Int.reduceNeg, decide_true, decide_false, true_and, and_true, le_size, add_ll, add_tt, tuple_lst, tuple_tup, list_tup, list_lst, sl_tup, sl_lst, ii_non_int, ii_non_bool, ii_non_str, ii_non_tuple, ii_non_list, ii_non_dict, ii_bl_int, ii_bl_bool, ii_bl_str, ii_bl_tuple, ii_bl_list, ii_bl_dict, ii_int_int, ii_int_bool, ii_int_str, ii_int_tuple, ii_int_list, ii_int_dict, ii_str_int, ii_str_bool, ii_str_str, ii_str_tuple, ii_str_list, ii_str_dict, ii_tup_int, ii_tup_bool, ii_tup_str, ii_tup_tuple, ii_tup_list, ii_tup_dict, ii_lst_int, ii_lst_bool, ii_lst_str, ii_lst_tuple, ii_lst_list, ii_lst_dict, ii_fz_int, ii_fz_bool, ii_fz_str, ii_fz_tuple, ii_fz_list, ii_fz_dict]
        refine fin _ (no _ rfl (bad fun z => ?_))
        rw [z.len] at c
        simp at c
      have hsn : s.length = cs.length := by
        have : ((s.length : Nat) : Int) = cs.length := by simpa using c
        omega
      simp only [wps, w_C, w_Var, k_Var, w_Bin, k_Bin1, k_Bin2, w_Tst, k_B, w_Chain, k_Ch1, k_Ch2, k_Ch3t, k_Ch3f, k_Ch4, w_And, w_Or, w_Not, k_Andt, k_Andf, k_Ort, k_Orf, k_Not, w_bAnd, w_bOr, w_bNot, w_bYes, k_bAndt, k_bAndf, k_bOrt, k_bOrf, k_bNot, w_dIf, k_dIft, k_dIff, w_aNil, w_aCons, k_Cons1, k_Cons2, w_Tup, w_Lst, w_Cell, k_Tup, k_Lst, k_Cell, w_Call, k_Call, w_CallF, k_CallF, w_CallN, k_CallN, k_New, k_AddN1, w_Un, k_Un, w_Sl, k_Sl1, k_Sl2, k_Sl3, w_No, w_So, k_So, w_iSeq, k_Items, w_Range1, w_Range2, k_Rng1, k_Rng2, w_iEnum, k_Enum, w_Comp, k_Comp, k_AsL, w_TupRg, w_LstRg, k_TupRg, k_LstRg, w_Rev, k_Rev, rev_tup, rev_lst, k_Di1, k_PT1, k_PT2, w_Nil, w_Nop, w_Fl, w_Seq, k_Seqn, k_Seqr, k_Seqb, k_Seqc, w_Expr, k_Drop, w_Ret, k_Ret, w_Set, k_Set, w_Asg, k_Asg1, k_Nx, w_If, k_Ift, k_Iff, w_For, k_For, k_Put1, k_Put2, w_Fun, w_Fun0, k_Funn, k_Funr, w_newK, w_newT, asB_bl, gN, gTupD, gsCons, gsNil, wipeE, itemsOf, seqItems, len_str, add_ii, sub_ii, neg_i, lt_ii, le_ii, gt_ii, ge_ii, eq_ii, ne_ii, eq_ss, ne_ss, isnot_bb, is_bb, is_non, isnot_non, isNonD, ix_tupD, ix_lstD, ix_fzD, at_lit0, at_lit1, at_lit2, at_lit3, len_fz, len_lst, len_tup, List.map_cons, List.map_nil, List.length_cons, List.length_nil, List.getElem?_cons_zero, List.getElem?_cons_succ, List.set_cons_zero, List.set_cons_succ, List.cons_append, List.nil_append, List.replicate_succ, List.replicate_zero, Nat.reduceSub, Nat.reduceAdd, Nat.reduceLeDiff, if_true, if_false, Bool.false_eq_true, Bool.true_eq_false, Bool.not_true, Bool.not_false, Option.bind_some, Option.map_some, Nat.zero_add, ite_true, ite_false, Int.cast_ofNat_Int, Int.natCast_zero, Int.natCast_one, Int.reduceLT, Int.reduceLE, Int.reduceEq, Int.reduceAdd, Int.reduceSub, Int.reduceNeg, decide_true, decide_false, true_and, and_true, le_size, add_ll, add_tt, tuple_lst, tuple_tup, list_tup, list_lst, sl_tup, sl_lst, ii_non_int, ii_non_bool, ii_non_str, ii_non_tuple, ii_non_list, ii_non_dict, ii_bl_int, ii_bl_bool, ii_bl_str, ii_bl_tuple, ii_bl_list, ii_bl_dict, ii_int_int, ii_int_bool, ii_int_str, ii_int_tuple, ii_int_list, ii_int_dict, ii_str_int, ii_str_bool, ii_str_str, ii_str_tuple, ii_str_list, ii_str_dict, ii_tup_int, ii_tup_bool, ii_tup_str, ii_tup_tuple, ii_tup_list, ii_tup_dict, ii_lst_int, ii_lst_bool, ii_lst_str, ii_lst_tuple, ii_lst_list, ii_lst_dict, ii_fz_int, ii_fz_bool, ii_fz_str, ii_fz_tuple, ii_fz_list, ii_fz_dict]
      show Wp (lift (seqItems (.tup (s.map D.int))) U) _
      simp only [wps, w_C, w_Var, k_Var, w_Bin, k_Bin1, k_Bin2, w_Tst, k_B, w_Chain, k_Ch1, k_Ch2, k_Ch3t, k_Ch3f, k_Ch4, w_And, w_Or, w_Not, k_Andt, k_Andf, k_Ort, k_Orf, k_Not, w_bAnd, w_bOr, w_bNot, w_bYes, k_bAndt, k_bAndf, k_bOrt, k_bOrf, k_bNot, w_dIf, k_dIft, k_dIff, w_aNil, w_aCons, k_Cons1, k_Cons2, w_Tup, w_Lst, w_Cell, k_Tup, k_Lst, k_Cell, w_Call, k_Call, w_CallF, k_CallF, w_CallN, k_CallN, k_New, k_AddN1, w_Un, k_Un, w_Sl, k_Sl1, k_Sl2, k_Sl3, w_No, w_So, k_So, w_iSeq, k_Items, w_Range1, w_Range2, k_Rng1, k_Rng2, w_iEnum, k_Enum, w_Comp, k_Comp, k_AsL, w_TupRg, w_LstRg, k_TupRg, k_LstRg, w_Rev, k_Rev, rev_tup, rev_lst, k_Di1, k_PT1, k_PT2, w_Nil, w_Nop, w_Fl, w_Seq, k_Seqn, k_Seqr, k_Seqb, k_Seqc, w_Expr, k_Drop, w_Ret, k_Ret, w_Set, k_Set, w_Asg, k_Asg1, k_Nx, w_If, k_Ift, k_Iff, w_For, k_For, k_Put1, k_Put2, w_Fun, w_Fun0, k_Funn, k_Funr, w_newK, w_newT, asB_bl, gN, gTupD, gsCons, gsNil, wipeE, itemsOf, seqItems, len_str, add_ii, sub_ii, neg_i, lt_ii, le_ii, gt_ii, ge_ii, eq_ii, ne_ii, eq_ss, ne_ss, isnot_bb, is_bb, is_non, isnot_non, isNonD, ix_tupD, ix_lstD, ix_fzD, at_lit0, at_lit1, at_lit2, at_lit3, len_fz, len_lst, len_tup, List.map_cons, List.map_nil, List.length_cons, List.length_nil, List.getElem?_cons_zero, List.getElem?_cons_succ, List.set_cons_zero, List.set_cons_succ, List.cons_append, List.nil_append, List.replicate_succ, List.replicate_zero, Nat.reduceSub, Nat.reduceAdd, Nat.reduceLeDiff, if_true, if_false, Bool.false_eq_true, Bool.true_eq_false, Bool.not_true, Bool.not_false, Option.bind_some, Option.map_some, Nat.zero_add, ite_true, ite_false, Int.cast_ofNat_Int, Int.natCast_zero, Int.natCast_one, Int.reduceLT, Int.reduceLE, Int.reduceEq, Int.reduceAdd, Int.reduceSub, Int.reduceNeg, decide_true, decide_false, true_and, and_true, le_size, add_ll, add_tt, tuple_lst, tuple_tup, list_tup, list_lst, sl_tup, sl_lst, ii_non_int, ii_non_bool, ii_non_str, ii_non_tuple, ii_non_list, ii_non_dict, ii_bl_int, ii_bl_bool, ii_bl_str, ii_bl_tuple, ii_bl_list, ii_bl_dict, ii_int_int, ii_int_bool, ii_int_str, ii_int_tuple, ii_int_list, ii_int_dict, ii_str_int, ii_str_bool, ii_str_str, ii_str_tuple, ii_str_list, ii_str_dict, ii_tup_int, ii_tup_bool, ii_tup_str, ii_tup_tuple, ii_tup_list, ii_tup_dict, ii_lst_int, ii_lst_bool, ii_lst_str, ii_lst_tuple, ii_lst_list, ii_lst_dict, ii_fz_int, ii_fz_bool, ii_fz_str, ii_fz_tuple, ii_fz_list, ii_fz_dict]
      refine ent_wp hsl (fun c => ⟨_, rfl, rfl⟩) ?_
      simp only [wps, w_C, w_Var, k_Var, w_Bin, k_Bin1, k_Bin2, w_Tst, k_B, w_Chain, k_Ch1, k_Ch2, k_Ch3t, k_Ch3f, k_Ch4, w_And, w_Or, w_Not, k_Andt, k_Andf, k_Ort, k_Orf, k_Not, w_bAnd, w_bOr, w_bNot, w_bYes, k_bAndt, k_bAndf, k_bOrt, k_bOrf, k_bNot, w_dIf, k_dIft, k_dIff, w_aNil, w_aCons, k_Cons1, k_Cons2, w_Tup, w_Lst, w_Cell, k_Tup, k_Lst, k_Cell, w_Call, k_Call, w_CallF, k_CallF, w_CallN, k_CallN, k_New, k_AddN1, w_Un, k_Un, w_Sl, k_Sl1, k_Sl2, k_Sl3, w_No, w_So, k_So, w_iSeq, k_Items, w_Range1, w_Range2, k_Rng1, k_Rng2, w_iEnum, k_Enum, w_Comp, k_Comp, k_AsL, w_TupRg, w_LstRg, k_TupRg, k_LstRg, w_Rev, k_Rev, rev_tup, rev_lst, k_Di1, k_PT1, k_PT2, w_Nil, w_Nop, w_Fl, w_Seq, k_Seqn, k_Seqr, k_Seqb, k_Seqc, w_Expr, k_Drop, w_Ret, k_Ret, w_Set, k_Set, w_Asg, k_Asg1, k_Nx, w_If, k_Ift, k_Iff, w_For, k_For, k_Put1, k_Put2, w_Fun, w_Fun0, k_Funn, k_Funr, w_newK, w_newT, asB_bl, gN, gTupD, gsCons, gsNil, wipeE, itemsOf, seqItems, len_str, add_ii, sub_ii, neg_i, lt_ii, le_ii, gt_ii, ge_ii, eq_ii, ne_ii, eq_ss, ne_ss, isnot_bb, is_bb, is_non, isnot_non, isNonD, ix_tupD, ix_lstD, ix_fzD, at_lit0, at_lit1, at_lit2, at_lit3, len_fz, len_lst, len_tup, List.map_cons, List.map_nil, List.length_cons, List.length_nil, List.getElem?_cons_zero, List.getElem?_cons_succ, List.set_cons_zero, List.set_cons_succ, List.cons_append, List.nil_append, List.replicate_succ, List.replicate_zero, Nat.reduceSub, Nat.reduceAdd, Nat.reduceLeDiff, if_true, if_false, Bool.false_eq_true, Bool.true_eq_false, Bool.not_true, Bool.not_false, Option.bind_some, Option.map_some, Nat.zero_add, ite_true, ite_false, Int.cast_ofNat_Int, Int.natCast_zero, Int.natCast_one, Int.reduceLT, Int.reduceLE, Int.reduceEq, Int.reduceAdd, Int.reduceSub, Int.reduceNeg, decide_true, decide_false, true_and, and_true, le_size, add_ll, add_tt, tuple_lst, tuple_tup, list_tup, list_lst, sl_tup, sl_lst, ii_non_int, ii_non_bool, ii_non_str, ii_non_tuple, ii_non_list, ii_non_dict, ii_bl_int, ii_bl_bool, ii_bl_str, ii_bl_tuple, ii_bl_list, ii_bl_dict, ii_int_int, ii_int_bool, ii_int_str, ii_int_tuple, ii_int_list, ii_int_dict, ii_str_int, ii_str_bool, ii_str_str, ii_str_tuple, ii_str_list, ii_str_dict, ii_tup_int, ii_tup_bool, ii_tup_str, ii_tup_tuple, ii_tup_list, ii_tup_dict, ii_lst_int, ii_lst_bool, ii_lst_str, ii_lst_tuple, ii_lst_list, ii_lst_dict, ii_fz_int, ii_fz_bool, ii_fz_str, ii_fz_tuple, ii_fz_list, ii_fz_dict, all_lst]
      refine k_Ifc (fun c => ?_) fun c => ?_
      · simp only [wps, w_C, w_Var, k_Var, w_Bin, k_Bin1, k_Bin2, w_Tst, k_B, w_Chain, k_Ch1, k_Ch2, k_Ch3t, k_Ch3f, k_Ch4, w_And, w_Or, w_Not, k_Andt, k_Andf, k_Ort, k_Orf, k_Not, w_bAnd, w_bOr, w_bNot, w_bYes, k_bAndt, k_bAndf, k_bOrt, k_bOrf, k_bNot, w_dIf, k_dIft, k_dIff, w_aNil, w_aCons, k_Cons1, k_Cons2, w_Tup, w_Lst, w_Cell, k_Tup, k_Lst, k_Cell, w_Call, k_Call, w_CallF, k_CallF, w_CallN, k_CallN, k_New, k_AddN1, w_Un, k_Un, w_Sl, k_Sl1, k_Sl2, k_Sl3, w_No, w_So, k_So, w_iSeq, k_Items, w_Range1, w_Range2, k_Rng1, k_Rng2, w_iEnum, k_Enum, w_Comp, k_Comp, k_AsL, w_TupRg, w_LstRg, k_TupRg, k_LstRg, w_Rev, k_Rev, rev_tup, rev_lst, k_Di1, k_PT1, k_PT2, w_Nil, w_Nop, w_Fl, w_Seq, k_Seqn, k_Seqr, k_Seqb, k_Seqc, w_Expr, k_Drop, w_Ret, k_Ret, w_Set, k_Set, w_Asg, k_Asg1, k_Nx, w_If, k_Ift, k_Iff, w_For, k_For, k_Put1, k_Put2, w_Fun, w_Fun0, k_Funn, k_Funr, w_newK, w_newT, asB_bl, gN, gTupD, gsCons, gsNil, wipeE, itemsOf, seqItems, len_str, add_ii, sub_ii, neg_i, lt_ii, le_ii, gt_ii, ge_ii, eq_ii, ne_ii, eq_ss, ne_ss, isnot_bb, is_bb, is_non, isnot_non, isNonD, ix_tupD, ix_lstD, ix_fzD, at_lit0, at_lit1, at_lit2, at_lit3, len_fz, len_lst, len_tup, List.map_cons, List.map_nil, List.length_cons, List.length_nil, List.getElem?_cons_zero, List.getElem?_cons_succ, List.set_cons_zero, List.set_cons_succ, List.cons_append, List.nil_append, List.replicate_succ, List.replicate_zero, Nat.reduceSub, Nat.reduceAdd, Nat.reduceLeDiff, if_true, if_false, Bool.false_eq_true, Bool.true_eq_false, Bool.not_true, Bool.not_false, Option.bind_some, Option.map_some, Nat.zero_add, ite_true, ite_false, Int.cast_ofNat_Int, Int.natCast_zero, Int.natCast_one, Int.reduceLT, Int.reduceLE, Int.reduceEq, Int.reduceAdd, Int.reduceSub, Int.reduceNeg, decide_true, decide_false, true_and, and_true, le_size, add_ll, add_tt, tuple_lst, tuple_tup, list_tup, list_lst, sl_tup, sl_lst, ii_non_int, ii_non_bool, ii_non_str, ii_non_tuple, ii_non_list, ii_non_dict, ii_bl_int, ii_bl_bool, ii_bl_str, ii_bl_tuple, ii_bl_list, ii_bl_dict, ii_int_int, ii_int_bool, ii_int_str, ii_int_tuple, ii_int_list, ii_int_dict, ii_str_int, ii_str_bool, ii_str_str, ii_str_tuple, ii_str_list, ii_str_dict, ii_tup_int, ii_tup_bool, ii_tup_str, ii_tup_tuple, ii_tup_list, ii_tup_dict, ii_lst_int, ii_lst_bool, ii_lst_str, ii_lst_tuple, ii_lst_list, ii_lst_dict, ii_fz_int, ii_fz_bool, ii_fz_str, ii_fz_tuple, ii_fz_list, ii_fz_dict]
        refine fin _ (no _ rfl (bad fun z => ?_))
        rw [b04_all.mpr z.ent] at c
        cases c
      have hent : ∀ c ∈ s, 0 ≤ c ∧ c ≤ 4 := b04_all.mp (by simpa using c)
      simp only [wps, w_C, w_Var, k_Var, w_Bin, k_Bin1, k_Bin2, w_Tst, k_B, w_Chain, k_Ch1, k_Ch2, k_Ch3t, k_Ch3f, k_Ch4, w_And, w_Or, w_Not, k_Andt, k_Andf, k_Ort, k_Orf, k_Not, w_bAnd, w_bOr, w_bNot, w_bYes, k_bAndt, k_bAndf, k_bOrt, k_bOrf, k_bNot, w_dIf, k_dIft, k_dIff, w_aNil, w_aCons, k_Cons1, k_Cons2, w_Tup, w_Lst, w_Cell, k_Tup, k_Lst, k_Cell, w_Call, k_Call, w_CallF, k_CallF, w_CallN, k_CallN, k_New, k_AddN1, w_Un, k_Un, w_Sl, k_Sl1, k_Sl2, k_Sl3, w_No, w_So, k_So, w_iSeq, k_Items, w_Range1, w_Range2, k_Rng1, k_Rng2, w_iEnum, k_Enum, w_Comp, k_Comp, k_AsL, w_TupRg, w_LstRg, k_TupRg, k_LstRg, w_Rev, k_Rev, rev_tup, rev_lst, k_Di1, k_PT1, k_PT2, w_Nil, w_Nop, w_Fl, w_Seq, k_Seqn, k_Seqr, k_Seqb, k_Seqc, w_Expr, k_Drop, w_Ret, k_Ret, w_Set, k_Set, w_Asg, k_Asg1, k_Nx, w_If, k_Ift, k_Iff, w_For, k_For, k_Put1, k_Put2, w_Fun, w_Fun0, k_Funn, k_Funr, w_newK, w_newT, asB_bl, gN, gTupD, gsCons, gsNil, wipeE, itemsOf, seqItems, len_str, add_ii, sub_ii, neg_i, lt_ii, le_ii, gt_ii, ge_ii, eq_ii, ne_ii, eq_ss, ne_ss, isnot_bb, is_bb, is_non, isnot_non, isNonD, ix_tupD, ix_lstD, ix_fzD, at_lit0, at_lit1, at_lit2, at_lit3, len_fz, len_lst, len_tup, List.map_cons, List.map_nil, List.length_cons, List.length_nil, List.getElem?_cons_zero, List.getElem?_cons_succ, List.set_cons_zero, List.set_cons_succ, List.cons_append, List.nil_append, List.replicate_succ, List.replicate_zero, Nat.reduceSub, Nat.reduceAdd, Nat.reduceLeDiff, if_true, if_false, Bool.false_eq_true, Bool.true_eq_false, Bool.not_true, Bool.not_false, Option.bind_some, Option.map_some, Nat.zero_add, ite_true, ite_false, Int.cast_ofNat_Int, Int.natCast_zero, Int.natCast_one, Int.reduceLT, Int.reduceLE, Int.reduceEq, Int.reduceAdd, Int.reduceSub, Int.reduceNeg, decide_true, decide_false, true_and, and_true, le_size, add_ll, add_tt, tuple_lst, tuple_tup, list_tup, list_lst, sl_tup, sl_lst, ii_non_int, ii_non_bool, ii_non_str, ii_non_tuple, ii_non_list, ii_non_dict, ii_bl_int, ii_bl_bool, ii_bl_str, ii_bl_tuple, ii_bl_list, ii_bl_dict, ii_int_int, ii_int_bool, ii_int_str, ii_int_tuple, ii_int_list, ii_int_dict, ii_str_int, ii_str_bool, ii_str_str, ii_str_tuple, ii_str_list, ii_str_dict, ii_tup_int, ii_tup_bool, ii_tup_str, ii_tup_tuple, ii_tup_list, ii_tup_dict, ii_lst_int, ii_lst_bool, ii_lst_str, ii_lst_tuple, ii_lst_list, ii_lst_dict, ii_fz_int, ii_fz_bool, ii_fz_str, ii_fz_tuple, ii_fz_list, ii_fz_dict]
      show Wp (f_groups_of [.int k, .tup (s.map D.int)] U) _
      refine own_groups_wp h.k1 h.k5 (by omega) fun gs hgs hgl => ?_
      simp only [wps, w_C, w_Var, k_Var, w_Bin, k_Bin1, k_Bin2, w_Tst, k_B, w_Chain, k_Ch1, k_Ch2, k_Ch3t, k_Ch3f, k_Ch4, w_And, w_Or, w_Not, k_Andt, k_Andf, k_Ort, k_Orf, k_Not, w_bAnd, w_bOr, w_bNot, w_bYes, k_bAndt, k_bAndf, k_bOrt, k_bOrf, k_bNot, w_dIf, k_dIft, k_dIff, w_aNil, w_aCons, k_Cons1, k_Cons2, w_Tup, w_Lst, w_Cell, k_Tup, k_Lst, k_Cell, w_Call, k_Call, w_CallF, k_CallF, w_CallN, k_CallN, k_New, k_AddN1, w_Un, k_Un, w_Sl, k_Sl1, k_Sl2, k_Sl3, w_No, w_So, k_So, w_iSeq, k_Items, w_Range1, w_Range2, k_Rng1, k_Rng2, w_iEnum, k_Enum, w_Comp, k_Comp, k_AsL, w_TupRg, w_LstRg, k_TupRg, k_LstRg, w_Rev, k_Rev, rev_tup, rev_lst, k_Di1, k_PT1, k_PT2, w_Nil, w_Nop, w_Fl, w_Seq, k_Seqn, k_Seqr, k_Seqb, k_Seqc, w_Expr, k_Drop, w_Ret, k_Ret, w_Set, k_Set, w_Asg, k_Asg1, k_Nx, w_If, k_Ift, k_Iff, w_For, k_For, k_Put1, k_Put2, w_Fun, w_Fun0, k_Funn, k_Funr, w_newK, w_newT, asB_bl, gN, gTupD, gsCons, gsNil, wipeE, itemsOf, seqItems, len_str, add_ii, sub_ii, neg_i, lt_ii, le_ii, gt_ii, ge_ii, eq_ii, ne_ii, eq_ss, ne_ss, isnot_bb, is_bb, is_non, isnot_non, isNonD, ix_tupD, ix_lstD, ix_fzD, at_lit0, at_lit1, at_lit2, at_lit3, len_fz, len_lst, len_tup, List.map_cons, List.map_nil, List.length_cons, List.length_nil, List.getElem?_cons_zero, List.getElem?_cons_succ, List.set_cons_zero, List.set_cons_succ, List.cons_append, List.nil_append, List.replicate_succ, List.replicate_zero, Nat.reduceSub, Nat.reduceAdd, Nat.reduceLeDiff, if_true, if_false, Bool.false_eq_true, Bool.true_eq_false, Bool.not_true, Bool.not_false, Option.bind_some, Option.map_some, Nat.zero_add, ite_true, ite_false, Int.cast_ofNat_Int, Int.natCast_zero, Int.natCast_one, Int.reduceLT, Int.reduceLE, Int.reduceEq, Int.reduceAdd, Int.reduceSub, Int.reduceNeg, decide_true, decide_false, true_and, and_true, le_size, add_ll, add_tt, tuple_lst, tuple_tup, list_tup, list_lst, sl_tup, sl_lst, ii_non_int, ii_non_bool, ii_non_str, ii_non_tuple, ii_non_list, ii_non_dict, ii_bl_int, ii_bl_bool, ii_bl_str, ii_bl_tuple, ii_bl_list, ii_bl_dict, ii_int_int, ii_int_bool, ii_int_str, ii_int_tuple, ii_int_list, ii_int_dict, ii_str_int, ii_str_bool, ii_str_str, ii_str_tuple, ii_str_list, ii_str_dict, ii_tup_int, ii_tup_bool, ii_tup_str, ii_tup_tuple, ii_tup_list, ii_tup_dict, ii_lst_int, ii_lst_bool, ii_lst_str, ii_lst_tuple, ii_lst_list, ii_lst_dict, ii_fz_int, ii_fz_bool, ii_fz_str, ii_fz_tuple, ii_fz_list, ii_fz_dict, none_left hgs, sum_I]
      have rest1 : ((∀ ns, ¬ Grp k s ns) → ¬ 0 < s.sum) → Wp (sIf (bNot (dTst (dCall oAll (aCons (dComp (iSeq (dVar 6)) (gN 7) [7] bYes (dBin (oInT false) (dCallF f_behind_meeting (aCons (dVar 5) (aCons (dVar 7) aNil))) (dVar 4))) aNil))))
          (sRet (dC (.bl false))) sNil [some (.tup [.int k, .tup (cs.map D.int)]), some (.lst (stands.map tupI)), some (.int k), some (.tup (cs.map D.int)), some (.ref S.length), some (tupI s), some (.lst (gs.map tupI)), e7, e8] U) (fun p S' => (p.1 = .nx ∧ GoodS k cs.length kvs s ∧ S' = U ∧ p.2 = [some (.tup [.int k, .tup (cs.map D.int)]), some (.lst (stands.map tupI)), some (.int k), some (.tup (cs.map D.int)), some (.ref S.length), some (tupI s), some (.lst (gs.map tupI)), e7, e8]) ∨ (p.1 = .rt (.bl false) ∧ S' = U ∧ ¬ GoodS k cs.length kvs s)) := by
        intro hgo
        simp only [wps, w_C, w_Var, k_Var, w_Bin, k_Bin1, k_Bin2, w_Tst, k_B, w_Chain, k_Ch1, k_Ch2, k_Ch3t, k_Ch3f, k_Ch4, w_And, w_Or, w_Not, k_Andt, k_Andf, k_Ort, k_Orf, k_Not, w_bAnd, w_bOr, w_bNot, w_bYes, k_bAndt, k_bAndf, k_bOrt, k_bOrf, k_bNot, w_dIf, k_dIft, k_dIff, w_aNil, w_aCons, k_Cons1, k_Cons2, w_Tup, w_Lst, w_Cell, k_Tup, k_Lst, k_Cell, w_Call, k_Call, w_CallF, k_CallF, w_CallN, k_CallN, k_New, k_AddN1, w_Un, k_Un, w_Sl, k_Sl1, k_Sl2, k_Sl3, w_No, w_So, k_So, w_iSeq, k_Items, w_Range1, w_Range2, k_Rng1, k_Rng2, w_iEnum, k_Enum, w_Comp, k_Comp, k_AsL, w_TupRg, w_LstRg, k_TupRg, k_LstRg, w_Rev, k_Rev, rev_tup, rev_lst, k_Di1, k_PT1, k_PT2, w_Nil, w_Nop, w_Fl, w_Seq, k_Seqn, k_Seqr, k_Seqb, k_Seqc, w_Expr, k_Drop, w_Ret, k_Ret, w_Set, k_Set, w_Asg, k_Asg1, k_Nx, w_If, k_Ift, k_Iff, w_For, k_For, k_Put1, k_Put2, w_Fun, w_Fun0, k_Funn, k_Funr, w_newK, w_newT, asB_bl, gN, gTupD, gsCons, gsNil, wipeE, itemsOf, seqItems, len_str, add_ii, sub_ii, neg_i, lt_ii, le_ii, gt_ii, ge_ii, eq_ii, ne_ii, eq_ss, ne_ss, isnot_bb, is_bb, is_non, isnot_non, isNonD, ix_tupD, ix_lstD, ix_fzD, at_lit0, at_lit1, at_lit2, at_lit3, len_fz, len_lst, len_tup, List.map_cons, List.map_nil, List.length_cons, List.length_nil, List.getElem?_cons_zero, List.getElem?_cons_succ, List.set_cons_zero, List.set_cons_succ, List.cons_append, List.nil_append, List.replicate_succ, List.replicate_zero, Nat.reduceSub, Nat.reduceAdd, Nat.reduceLeDiff, if_true, if_false, Bool.false_eq_true, Bool.true_eq_false, Bool.not_true, Bool.not_false, Option.bind_some, Option.map_some, Nat.zero_add, ite_true, ite_false, Int.cast_ofNat_Int, Int.natCast_zero, Int.natCast_one, Int.reduceLT, Int.reduceLE, Int.reduceEq, Int.reduceAdd, Int.reduceSub, Int.reduceNeg, decide_true, decide_false, true_and, and_true, le_size, add_ll, add_tt, tuple_lst, tuple_tup, list_tup, list_lst, sl_tup, sl_lst, ii_non_int, ii_non_bool, ii_non_str, ii_non_tuple, ii_non_list, ii_non_dict, ii_bl_int, ii_bl_bool, ii_bl_str, ii_bl_tuple, ii_bl_list, ii_bl_dict, ii_int_int, ii_int_bool, ii_int_str, ii_int_tuple, ii_int_list, ii_int_dict, ii_str_int, ii_str_bool, ii_str_str, ii_str_tuple, ii_str_list, ii_str_dict, ii_tup_int, ii_tup_bool, ii_tup_str, ii_tup_tuple, ii_tup_list, ii_tup_dict, ii_lst_int, ii_lst_bool, ii_lst_str, ii_lst_tuple, ii_lst_list, ii_lst_dict, ii_fz_int, ii_fz_bool, ii_fz_str, ii_fz_tuple, ii_fz_list, ii_fz_dict]
        refine compGo_pure (inB kvs s) (by rw [List.length_map, sizeLine_eq]; omega) (fun d hd => ?_) ?_
        · obtain ⟨ns, hns, ed⟩ := List.mem_map.mp hd
          subst ed
          refine ⟨_, rfl, ?_⟩
          simp only [wps, w_C, w_Var, k_Var, w_Bin, k_Bin1, k_Bin2, w_Tst, k_B, w_Chain, k_Ch1, k_Ch2, k_Ch3t, k_Ch3f, k_Ch4, w_And, w_Or, w_Not, k_Andt, k_Andf, k_Ort, k_Orf, k_Not, w_bAnd, w_bOr, w_bNot, w_bYes, k_bAndt, k_bAndf, k_bOrt, k_bOrf, k_bNot, w_dIf, k_dIft, k_dIff, w_aNil, w_aCons, k_Cons1, k_Cons2, w_Tup, w_Lst, w_Cell, k_Tup, k_Lst, k_Cell, w_Call, k_Call, w_CallF, k_CallF, w_CallN, k_CallN, k_New, k_AddN1, w_Un, k_Un, w_Sl, k_Sl1, k_Sl2, k_Sl3, w_No, w_So, k_So, w_iSeq, k_Items, w_Range1, w_Range2, k_Rng1, k_Rng2, w_iEnum, k_Enum, w_Comp, k_Comp, k_AsL, w_TupRg, w_LstRg, k_TupRg, k_LstRg, w_Rev, k_Rev, rev_tup, rev_lst, k_Di1, k_PT1, k_PT2, w_Nil, w_Nop, w_Fl, w_Seq, k_Seqn, k_Seqr, k_Seqb, k_Seqc, w_Expr, k_Drop, w_Ret, k_Ret, w_Set, k_Set, w_Asg, k_Asg1, k_Nx, w_If, k_Ift, k_Iff, w_For, k_For, k_Put1, k_Put2, w_Fun, w_Fun0, k_Funn, k_Funr, w_newK, w_newT, asB_bl, gN, gTupD, gsCons, gsNil, wipeE, itemsOf, seqItems, len_str, add_ii, sub_ii, neg_i, lt_ii, le_ii, gt_ii, ge_ii, eq_ii, ne_ii, eq_ss, ne_ss, isnot_bb, is_bb, is_non, isnot_non, isNonD, ix_tupD, ix_lstD, ix_fzD, at_lit0, at_lit1, at_lit2, at_lit3, len_fz, len_lst, len_tup, List.map_cons, List.map_nil, List.length_cons, List.length_nil, List.getElem?_cons_zero, List.getElem?_cons_succ, List.set_cons_zero, List.set_cons_succ, List.cons_append, List.nil_append, List.replicate_succ, List.replicate_zero, Nat.reduceSub, Nat.reduceAdd, Nat.reduceLeDiff, if_true, if_false, Bool.false_eq_true, Bool.true_eq_false, Bool.not_true, Bool.not_false, Option.bind_some, Option.map_some, Nat.zero_add, ite_true, ite_false, Int.cast_ofNat_Int, Int.natCast_zero, Int.natCast_one, Int.reduceLT, Int.reduceLE, Int.reduceEq, Int.reduceAdd, Int.reduceSub, Int.reduceNeg, decide_true, decide_false, true_and, and_true, le_size, add_ll, add_tt, tuple_lst, tuple_tup, list_tup, list_lst, sl_tup, sl_lst, ii_non_int, ii_non_bool, ii_non_str, ii_non_tuple, ii_non_list, ii_non_dict, ii_bl_int, ii_bl_bool, ii_bl_str, ii_bl_tuple, ii_bl_list, ii_bl_dict, ii_int_int, ii_int_bool, ii_int_str, ii_int_tuple, ii_int_list, ii_int_dict, ii_str_int, ii_str_bool, ii_str_str, ii_str_tuple, ii_str_list, ii_str_dict, ii_tup_int, ii_tup_bool, ii_tup_str, ii_tup_tuple, ii_tup_list, ii_tup_dict, ii_lst_int, ii_lst_bool, ii_lst_str, ii_lst_tuple, ii_lst_list, ii_lst_dict, ii_fz_int, ii_fz_bool, ii_fz_str, ii_fz_tuple, ii_fz_list, ii_fz_dict]
          show Wp (f_behind_meeting [.tup (s.map D.int), tupI ns] U) _
          refine behind_wp hsl ?_
          simp only [wps, w_C, w_Var, k_Var, w_Bin, k_Bin1, k_Bin2, w_Tst, k_B, w_Chain, k_Ch1, k_Ch2, k_Ch3t, k_Ch3f, k_Ch4, w_And, w_Or, w_Not, k_Andt, k_Andf, k_Ort, k_Orf, k_Not, w_bAnd, w_bOr, w_bNot, w_bYes, k_bAndt, k_bAndf, k_bOrt, k_bOrf, k_bNot, w_dIf, k_dIft, k_dIff, w_aNil, w_aCons, k_Cons1, k_Cons2, w_Tup, w_Lst, w_Cell, k_Tup, k_Lst, k_Cell, w_Call, k_Call, w_CallF, k_CallF, w_CallN, k_CallN, k_New, k_AddN1, w_Un, k_Un, w_Sl, k_Sl1, k_Sl2, k_Sl3, w_No, w_So, k_So, w_iSeq, k_Items, w_Range1, w_Range2, k_Rng1, k_Rng2, w_iEnum, k_Enum, w_Comp, k_Comp, k_AsL, w_TupRg, w_LstRg, k_TupRg, k_LstRg, w_Rev, k_Rev, rev_tup, rev_lst, k_Di1, k_PT1, k_PT2, w_Nil, w_Nop, w_Fl, w_Seq, k_Seqn, k_Seqr, k_Seqb, k_Seqc, w_Expr, k_Drop, w_Ret, k_Ret, w_Set, k_Set, w_Asg, k_Asg1, k_Nx, w_If, k_Ift, k_Iff, w_For, k_For, k_Put1, k_Put2, w_Fun, w_Fun0, k_Funn, k_Funr, w_newK, w_newT, asB_bl, gN, gTupD, gsCons, gsNil, wipeE, itemsOf, seqItems, len_str, add_ii, sub_ii, neg_i, lt_ii, le_ii, gt_ii, ge_ii, eq_ii, ne_ii, eq_ss, ne_ss, isnot_bb, is_bb, is_non, isnot_non, isNonD, ix_tupD, ix_lstD, ix_fzD, at_lit0, at_lit1, at_lit2, at_lit3, len_fz, len_lst, len_tup, List.map_cons, List.map_nil, List.length_cons, List.length_nil, List.getElem?_cons_zero, List.getElem?_cons_succ, List.set_cons_zero, List.set_cons_succ, List.cons_append, List.nil_append, List.replicate_succ, List.replicate_zero, Nat.reduceSub, Nat.reduceAdd, Nat.reduceLeDiff, if_true, if_false, Bool.false_eq_true, Bool.true_eq_false, Bool.not_true, Bool.not_false, Option.bind_some, Option.map_some, Nat.zero_add, ite_true, ite_false, Int.cast_ofNat_Int, Int.natCast_zero, Int.natCast_one, Int.reduceLT, Int.reduceLE, Int.reduceEq, Int.reduceAdd, Int.reduceSub, Int.reduceNeg, decide_true, decide_false, true_and, and_true, le_size, add_ll, add_tt, tuple_lst, tuple_tup, list_tup, list_lst, sl_tup, sl_lst, ii_non_int, ii_non_bool, ii_non_str, ii_non_tuple, ii_non_list, ii_non_dict, ii_bl_int, ii_bl_bool, ii_bl_str, ii_bl_tuple, ii_bl_list, ii_bl_dict, ii_int_int, ii_int_bool, ii_int_str, ii_int_tuple, ii_int_list, ii_int_dict, ii_str_int, ii_str_bool, ii_str_str, ii_str_tuple, ii_str_list, ii_str_dict, ii_tup_int, ii_tup_bool, ii_tup_str, ii_tup_tuple, ii_tup_list, ii_tup_dict, ii_lst_int, ii_lst_bool, ii_lst_str, ii_lst_tuple, ii_lst_list, ii_lst_dict, ii_fz_int, ii_fz_bool, ii_fz_str, ii_fz_tuple, ii_fz_list, ii_fz_dict, inT_I hT, inB_I, Bool.false_xor]
        · have e2 : (gs.map tupI).map (inB kvs s) = gs.map fun ns => D.bl (valD kvs (behL ns 0 s)).isSome := by
            rw [List.map_map]
            exact List.map_congr_left fun ns _ => inB_I kvs s ns
          rw [e2]
          simp only [wps, w_C, w_Var, k_Var, w_Bin, k_Bin1, k_Bin2, w_Tst, k_B, w_Chain, k_Ch1, k_Ch2, k_Ch3t, k_Ch3f, k_Ch4, w_And, w_Or, w_Not, k_Andt, k_Andf, k_Ort, k_Orf, k_Not, w_bAnd, w_bOr, w_bNot, w_bYes, k_bAndt, k_bAndf, k_bOrt, k_bOrf, k_bNot, w_dIf, k_dIft, k_dIff, w_aNil, w_aCons, k_Cons1, k_Cons2, w_Tup, w_Lst, w_Cell, k_Tup, k_Lst, k_Cell, w_Call, k_Call, w_CallF, k_CallF, w_CallN, k_CallN, k_New, k_AddN1, w_Un, k_Un, w_Sl, k_Sl1, k_Sl2, k_Sl3, w_No, w_So, k_So, w_iSeq, k_Items, w_Range1, w_Range2, k_Rng1, k_Rng2, w_iEnum, k_Enum, w_Comp, k_Comp, k_AsL, w_TupRg, w_LstRg, k_TupRg, k_LstRg, w_Rev, k_Rev, rev_tup, rev_lst, k_Di1, k_PT1, k_PT2, w_Nil, w_Nop, w_Fl, w_Seq, k_Seqn, k_Seqr, k_Seqb, k_Seqc, w_Expr, k_Drop, w_Ret, k_Ret, w_Set, k_Set, w_Asg, k_Asg1, k_Nx, w_If, k_Ift, k_Iff, w_For, k_For, k_Put1, k_Put2, w_Fun, w_Fun0, k_Funn, k_Funr, w_newK, w_newT, asB_bl, gN, gTupD, gsCons, gsNil, wipeE, itemsOf, seqItems, len_str, add_ii, sub_ii, neg_i, lt_ii, le_ii, gt_ii, ge_ii, eq_ii, ne_ii, eq_ss, ne_ss, isnot_bb, is_bb, is_non, isnot_non, isNonD, ix_tupD, ix_lstD, ix_fzD, at_lit0, at_lit1, at_lit2, at_lit3, len_fz, len_lst, len_tup, List.map_cons, List.map_nil, List.length_cons, List.length_nil, List.getElem?_cons_zero, List.getElem?_cons_succ, List.set_cons_zero, List.set_cons_succ, List.cons_append, List.nil_append, List.replicate_succ, List.replicate_zero, Nat.reduceSub, Nat.reduceAdd, Nat.reduceLeDiff, if_true, if_false, Bool.false_eq_true, Bool.true_eq_false, Bool.not_true, Bool.not_false, Option.bind_some, Option.map_some, Nat.zero_add, ite_true, ite_false, Int.cast_ofNat_Int, Int.natCast_zero, Int.natCast_one, Int.reduceLT, Int.reduceLE, Int.reduceEq, Int.reduceAdd, Int.reduceSub, Int.reduceNeg, decide_true, decide_false, true_and, and_true, le_size, add_ll, add_tt, tuple_lst, tuple_tup, list_tup, list_lst, sl_tup, sl_lst, ii_non_int, ii_non_bool, ii_non_str, ii_non_tuple, ii_non_list, ii_non_dict, ii_bl_int, ii_bl_bool, ii_bl_str, ii_bl_tuple, ii_bl_list, ii_bl_dict, ii_int_int, ii_int_bool, ii_int_str, ii_int_tuple, ii_int_list, ii_int_dict, ii_str_int, ii_str_bool, ii_str_str, ii_str_tuple, ii_str_list, ii_str_dict, ii_tup_int, ii_tup_bool, ii_tup_str, ii_tup_tuple, ii_tup_list, ii_tup_dict, ii_lst_int, ii_lst_bool, ii_lst_str, ii_lst_tuple, ii_lst_list, ii_lst_dict, ii_fz_int, ii_fz_bool, ii_fz_str, ii_fz_tuple, ii_fz_list, ii_fz_dict, all_lst]
          refine k_Ifc (fun c => ?_) fun c => ?_
          · simp only [wps, w_C, w_Var, k_Var, w_Bin, k_Bin1, k_Bin2, w_Tst, k_B, w_Chain, k_Ch1, k_Ch2, k_Ch3t, k_Ch3f, k_Ch4, w_And, w_Or, w_Not, k_Andt, k_Andf, k_Ort, k_Orf, k_Not, w_bAnd, w_bOr, w_bNot, w_bYes, k_bAndt, k_bAndf, k_bOrt, k_bOrf, k_bNot, w_dIf, k_dIft, k_dIff, w_aNil, w_aCons, k_Cons1, k_Cons2, w_Tup, w_Lst, w_Cell, k_Tup, k_Lst, k_Cell, w_Call, k_Call, w_CallF, k_CallF, w_CallN, k_CallN, k_New, k_AddN1, w_Un, k_Un, w_Sl, k_Sl1, k_Sl2, k_Sl3, w_No, w_So, k_So, w_iSeq, k_Items, w_Range1, w_Range2, k_Rng1, k_Rng2, w_iEnum, k_Enum, w_Comp, k_Comp, k_AsL, w_TupRg, w_LstRg, k_TupRg, k_LstRg, w_Rev, k_Rev, rev_tup, rev_lst, k_Di1, k_PT1, k_PT2, w_Nil, w_Nop, w_Fl, w_Seq, k_Seqn, k_Seqr, k_Seqb, k_Seqc, w_Expr, k_Drop, w_Ret, k_Ret, w_Set, k_Set, w_Asg, k_Asg1, k_Nx, w_If, k_Ift, k_Iff, w_For, k_For, k_Put1, k_Put2, w_Fun, w_Fun0, k_Funn, k_Funr, w_newK, w_newT, asB_bl, gN, gTupD, gsCons, gsNil, wipeE, itemsOf, seqItems, len_str, add_ii, sub_ii, neg_i, lt_ii, le_ii, gt_ii, ge_ii, eq_ii, ne_ii, eq_ss, ne_ss, isnot_bb, is_bb, is_non, isnot_non, isNonD, ix_tupD, ix_lstD, ix_fzD, at_lit0, at_lit1, at_lit2, at_lit3, len_fz, len_lst, len_tup, List.map_cons, List.map_nil, List.length_cons, List.length_nil, List.getElem?_cons_zero, List.getElem?_cons_succ, List.set_cons_zero, List.set_cons_succ, List.cons_append, List.nil_append, List.replicate_succ, List.replicate_zero, Nat.reduceSub, Nat.reduceAdd, Nat.reduceLeDiff, if_true, if_false, Bool.false_eq_true, Bool.true_eq_false, Bool.not_true, Bool.not_false, Option.bind_some, Option.map_some, Nat.zero_add, ite_true, ite_false, Int.cast_ofNat_Int, Int.natCast_zero, Int.natCast_one, Int.reduceLT, Int.reduceLE, Int.reduceEq, Int.reduceAdd, Int.reduceSub, Int.reduceNeg, decide_true, decide_false, true_and, and_true, le_size, add_ll, add_tt, tuple_lst, tuple_tup, list_tup, list_lst, sl_tup, sl_lst, ii_non_int, ii_non_bool, ii_non_str, ii_non_tuple, ii_non_list, ii_non_dict, ii_bl_int, ii_bl_bool, ii_bl_str, ii_bl_tuple, ii_bl_list, ii_bl_dict, ii_int_int, ii_int_bool, ii_int_str, ii_int_tuple, ii_int_list, ii_int_dict, ii_str_int, ii_str_bool, ii_str_str, ii_str_tuple, ii_str_list, ii_str_dict, ii_tup_int, ii_tup_bool, ii_tup_str, ii_tup_tuple, ii_tup_list, ii_tup_dict, ii_lst_int, ii_lst_bool, ii_lst_str, ii_lst_tuple, ii_lst_list, ii_lst_dict, ii_fz_int, ii_fz_bool, ii_fz_str, ii_fz_tuple, ii_fz_list, ii_fz_dict]
            refine .inr fun z => ?_
            rw [List.all_eq_true.mpr fun ns hns => z.all ns ((hgs ns).mp hns)] at c
            cases c
          · have hall : gs.all (fun ns => (valD kvs (behL ns 0 s)).isSome) = true := by simpa using c
            simp only [wps, w_C, w_Var, k_Var, w_Bin, k_Bin1, k_Bin2, w_Tst, k_B, w_Chain, k_Ch1, k_Ch2, k_Ch3t, k_Ch3f, k_Ch4, w_And, w_Or, w_Not, k_Andt, k_Andf, k_Ort, k_Orf, k_Not, w_bAnd, w_bOr, w_bNot, w_bYes, k_bAndt, k_bAndf, k_bOrt, k_bOrf, k_bNot, w_dIf, k_dIft, k_dIff, w_aNil, w_aCons, k_Cons1, k_Cons2, w_Tup, w_Lst, w_Cell, k_Tup, k_Lst, k_Cell, w_Call, k_Call, w_CallF, k_CallF, w_CallN, k_CallN, k_New, k_AddN1, w_Un, k_Un, w_Sl, k_Sl1, k_Sl2, k_Sl3, w_No, w_So, k_So, w_iSeq, k_Items, w_Range1, w_Range2, k_Rng1, k_Rng2, w_iEnum, k_Enum, w_Comp, k_Comp, k_AsL, w_TupRg, w_LstRg, k_TupRg, k_LstRg, w_Rev, k_Rev, rev_tup, rev_lst, k_Di1, k_PT1, k_PT2, w_Nil, w_Nop, w_Fl, w_Seq, k_Seqn, k_Seqr, k_Seqb, k_Seqc, w_Expr, k_Drop, w_Ret, k_Ret, w_Set, k_Set, w_Asg, k_Asg1, k_Nx, w_If, k_Ift, k_Iff, w_For, k_For, k_Put1, k_Put2, w_Fun, w_Fun0, k_Funn, k_Funr, w_newK, w_newT, asB_bl, gN, gTupD, gsCons, gsNil, wipeE, itemsOf, seqItems, len_str, add_ii, sub_ii, neg_i, lt_ii, le_ii, gt_ii, ge_ii, eq_ii, ne_ii, eq_ss, ne_ss, isnot_bb, is_bb, is_non, isnot_non, isNonD, ix_tupD, ix_lstD, ix_fzD, at_lit0, at_lit1, at_lit2, at_lit3, len_fz, len_lst, len_tup, List.map_cons, List.map_nil, List.length_cons, List.length_nil, List.getElem?_cons_zero, List.getElem?_cons_succ, List.set_cons_zero, List.set_cons_succ, List.cons_append, List.nil_append, List.replicate_succ, List.replicate_zero, Nat.reduceSub, Nat.reduceAdd, Nat.reduceLeDiff, if_true, if_false, Bool.false_eq_true, Bool.true_eq_false, Bool.not_true, Bool.not_false, Option.bind_some, Option.map_some, Nat.zero_add, ite_true, ite_false, Int.cast_ofNat_Int, Int.natCast_zero, Int.natCast_one, Int.reduceLT, Int.reduceLE, Int.reduceEq, Int.reduceAdd, Int.reduceSub, Int.reduceNeg, decide_true, decide_false, true_and, and_true, le_size, add_ll, add_tt, tuple_lst, tuple_tup, list_tup, list_lst, sl_tup, sl_lst, ii_non_int, ii_non_bool, ii_non_str, ii_non_tuple, ii_non_list, ii_non_dict, ii_bl_int, ii_bl_bool, ii_bl_str, ii_bl_tuple, ii_bl_list, ii_bl_dict, ii_int_int, ii_int_bool, ii_int_str, ii_int_tuple, ii_int_list, ii_int_dict, ii_str_int, ii_str_bool, ii_str_str, ii_str_tuple, ii_str_list, ii_str_dict, ii_tup_int, ii_tup_bool, ii_tup_str, ii_tup_tuple, ii_tup_list, ii_tup_dict, ii_lst_int, ii_lst_bool, ii_lst_str, ii_lst_tuple, ii_lst_list, ii_lst_dict, ii_fz_int, ii_fz_bool, ii_fz_str, ii_fz_tuple, ii_fz_list, ii_fz_dict]
            exact .inl ⟨hsn, hent, hgo, fun ns hg => List.all_eq_true.mp hall ns ((hgs ns).mpr hg)⟩
      have done : ((∀ ns, ¬ Grp k s ns) → ¬ 0 < s.sum) → ∀ (Q : Fl × Ev → Sto → Prop), (∀ e6 e7 e8, GoodS k cs.length kvs s → Q (.nx, [some (.tup [.int k, .tup (cs.map D.int)]), some (.lst (stands.map tupI)), some (.int k), some (.tup (cs.map D.int)), some (.ref S.length), some (tupI s), e6, e7, e8]) U) → (∀ env, ¬ GoodS k cs.length kvs s → Q (.rt (.bl false), env) U) → Wp (sIf (bNot (dTst (dCall oAll (aCons (dComp (iSeq (dVar 6)) (gN 7) [7] bYes (dBin (oInT false) (dCallF f_behind_meeting (aCons (dVar 5) (aCons (dVar 7) aNil))) (dVar 4))) aNil))))
          (sRet (dC (.bl false))) sNil [some (.tup [.int k, .tup (cs.map D.int)]), some (.lst (stands.map tupI)), some (.int k), some (.tup (cs.map D.int)), some (.ref S.length), some (tupI s), some (.lst (gs.map tupI)), e7, e8] U) Q := fun hgo Q q1 q2 => (rest1 hgo).mono fun p S' q => by
        obtain ⟨fl, en⟩ := p
        rcases q with ⟨a, b, c, d⟩ | ⟨a, b, c⟩
        · cases a
          dsimp only at d
          subst d c
          exact q1 _ _ _ b
        · cases a
          subst b
          exact q2 _ c
      have nxt : ∀ e6 e7 e8, GoodS k cs.length kvs s → ∃ (left' : List (List Int)) (e5 e6' e7' e8' : Option D), rest = left'.map tupI ∧ [some (D.tup [.int k, .tup (cs.map D.int)]), some (.lst (stands.map tupI)), some (.int k), some (.tup (cs.map D.int)), some (.ref S.length), some (tupI s), e6, e7, e8] = [some (.tup [.int k, .tup (cs.map D.int)]), some (.lst (stands.map tupI)), some (.int k), some (.tup (cs.map D.int)), some (.ref S.length), e5, e6', e7', e8'] ∧ U = U ∧ (∀ s ∈ left', s ∈ stands) ∧ ∀ s ∈ stands, s ∈ left' ∨ GoodS k cs.length kvs s := fun e6 e7 e8 hg =>
        ⟨left, _, _, _, _, er, rfl, rfl, fun x hx => hsub x (List.mem_cons_of_mem _ hx), fun x hx => (hgood x hx).elim (fun z => (List.mem_cons.mp z).elim (fun e => .inr (e ▸ hg)) .inl) .inr⟩
      refine k_bAndc (fun c => ?_) fun c => ?_
      · have hno : ∀ ns, ¬ Grp k s ns := of_decide_eq_true c
        simp only [wps, w_C, w_Var, k_Var, w_Bin, k_Bin1, k_Bin2, w_Tst, k_B, w_Chain, k_Ch1, k_Ch2, k_Ch3t, k_Ch3f, k_Ch4, w_And, w_Or, w_Not, k_Andt, k_Andf, k_Ort, k_Orf, k_Not, w_bAnd, w_bOr, w_bNot, w_bYes, k_bAndt, k_bAndf, k_bOrt, k_bOrf, k_bNot, w_dIf, k_dIft, k_dIff, w_aNil, w_aCons, k_Cons1, k_Cons2, w_Tup, w_Lst, w_Cell, k_Tup, k_Lst, k_Cell, w_Call, k_Call, w_CallF, k_CallF, w_CallN, k_CallN, k_New, k_AddN1, w_Un, k_Un, w_Sl, k_Sl1, k_Sl2, k_Sl3, w_No, w_So, k_So, w_iSeq, k_Items, w_Range1, w_Range2, k_Rng1, k_Rng2, w_iEnum, k_Enum, w_Comp, k_Comp, k_AsL, w_TupRg, w_LstRg, k_TupRg, k_LstRg, w_Rev, k_Rev, rev_tup, rev_lst, k_Di1, k_PT1, k_PT2, w_Nil, w_Nop, w_Fl, w_Seq, k_Seqn, k_Seqr, k_Seqb, k_Seqc, w_Expr, k_Drop, w_Ret, k_Ret, w_Set, k_Set, w_Asg, k_Asg1, k_Nx, w_If, k_Ift, k_Iff, w_For, k_For, k_Put1, k_Put2, w_Fun, w_Fun0, k_Funn, k_Funr, w_newK, w_newT, asB_bl, gN, gTupD, gsCons, gsNil, wipeE, itemsOf, seqItems, len_str, add_ii, sub_ii, neg_i, lt_ii, le_ii, gt_ii, ge_ii, eq_ii, ne_ii, eq_ss, ne_ss, isnot_bb, is_bb, is_non, isnot_non, isNonD, ix_tupD, ix_lstD, ix_fzD, at_lit0, at_lit1, at_lit2, at_lit3, len_fz, len_lst, len_tup, List.map_cons, List.map_nil, List.length_cons, List.length_nil, List.getElem?_cons_zero, List.getElem?_cons_succ, List.set_cons_zero, List.set_cons_succ, List.cons_append, List.nil_append, List.replicate_succ, List.replicate_zero, Nat.reduceSub, Nat.reduceAdd, Nat.reduceLeDiff, if_true, if_false, Bool.false_eq_true, Bool.true_eq_false, Bool.not_true, Bool.not_false, Option.bind_some, Option.map_some, Nat.zero_add, ite_true, ite_false, Int.cast_ofNat_Int, Int.natCast_zero, Int.natCast_one, Int.reduceLT, Int.reduceLE, Int.reduceEq, Int.reduceAdd, Int.reduceSub, Int.reduceNeg, decide_true, decide_false, true_and, and_true, le_size, add_ll, add_tt, tuple_lst, tuple_tup, list_tup, list_lst, sl_tup, sl_lst, ii_non_int, ii_non_bool, ii_non_str, ii_non_tuple, ii_non_list, ii_non_dict, ii_bl_int, ii_bl_bool, ii_bl_str, ii_bl_tuple, ii_bl_list, ii_bl_dict, ii_int_int, ii_int_bool, ii_int_str, ii_int_tuple, ii_int_list, ii_int_dict, ii_str_int, ii_str_bool, ii_str_str, ii_str_tuple, ii_str_list, ii_str_dict, ii_tup_int, ii_tup_bool, ii_tup_str, ii_tup_tuple, ii_tup_list, ii_tup_dict, ii_lst_int, ii_lst_bool, ii_lst_str, ii_lst_tuple, ii_lst_list, ii_lst_dict, ii_fz_int, ii_fz_bool, ii_fz_str, ii_fz_tuple, ii_fz_list, ii_fz_dict, sum_I]
        refine k_Ifd (fun c2 => ?_) fun c2 => ?_
        · simp only [wps, w_C, w_Var, k_Var, w_Bin, k_Bin1, k_Bin2, w_Tst, k_B, w_Chain, k_Ch1, k_Ch2, k_Ch3t, k_Ch3f, k_Ch4, w_And, w_Or, w_Not, k_Andt, k_Andf, k_Ort, k_Orf, k_Not, w_bAnd, w_bOr, w_bNot, w_bYes, k_bAndt, k_bAndf, k_bOrt, k_bOrf, k_bNot, w_dIf, k_dIft, k_dIff, w_aNil, w_aCons, k_Cons1, k_Cons2, w_Tup, w_Lst, w_Cell, k_Tup, k_Lst, k_Cell, w_Call, k_Call, w_CallF, k_CallF, w_CallN, k_CallN, k_New, k_AddN1, w_Un, k_Un, w_Sl, k_Sl1, k_Sl2, k_Sl3, w_No, w_So, k_So, w_iSeq, k_Items, w_Range1, w_Range2, k_Rng1, k_Rng2, w_iEnum, k_Enum, w_Comp, k_Comp, k_AsL, w_TupRg, w_LstRg, k_TupRg, k_LstRg, w_Rev, k_Rev, rev_tup, rev_lst, k_Di1, k_PT1, k_PT2, w_Nil, w_Nop, w_Fl, w_Seq, k_Seqn, k_Seqr, k_Seqb, k_Seqc, w_Expr, k_Drop, w_Ret, k_Ret, w_Set, k_Set, w_Asg, k_Asg1, k_Nx, w_If, k_Ift, k_Iff, w_For, k_For, k_Put1, k_Put2, w_Fun, w_Fun0, k_Funn, k_Funr, w_newK, w_newT, asB_bl, gN, gTupD, gsCons, gsNil, wipeE, itemsOf, seqItems, len_str, add_ii, sub_ii, neg_i, lt_ii, le_ii, gt_ii, ge_ii, eq_ii, ne_ii, eq_ss, ne_ss, isnot_bb, is_bb, is_non, isnot_non, isNonD, ix_tupD, ix_lstD, ix_fzD, at_lit0, at_lit1, at_lit2, at_lit3, len_fz, len_lst, len_tup, List.map_cons, List.map_nil, List.length_cons, List.length_nil, List.getElem?_cons_zero, List.getElem?_cons_succ, List.set_cons_zero, List.set_cons_succ, List.cons_append, List.nil_append, List.replicate_succ, List.replicate_zero, Nat.reduceSub, Nat.reduceAdd, Nat.reduceLeDiff, if_true, if_false, Bool.false_eq_true, Bool.true_eq_false, Bool.not_true, Bool.not_false, Option.bind_some, Option.map_some, Nat.zero_add, ite_true, ite_false, Int.cast_ofNat_Int, Int.natCast_zero, Int.natCast_one, Int.reduceLT, Int.reduceLE, Int.reduceEq, Int.reduceAdd, Int.reduceSub, Int.reduceNeg, decide_true, decide_false, true_and, and_true, le_size, add_ll, add_tt, tuple_lst, tuple_tup, list_tup, list_lst, sl_tup, sl_lst, ii_non_int, ii_non_bool, ii_non_str, ii_non_tuple, ii_non_list, ii_non_dict, ii_bl_int, ii_bl_bool, ii_bl_str, ii_bl_tuple, ii_bl_list, ii_bl_dict, ii_int_int, ii_int_bool, ii_int_str, ii_int_tuple, ii_int_list, ii_int_dict, ii_str_int, ii_str_bool, ii_str_str, ii_str_tuple, ii_str_list, ii_str_dict, ii_tup_int, ii_tup_bool, ii_tup_str, ii_tup_tuple, ii_tup_list, ii_tup_dict, ii_lst_int, ii_lst_bool, ii_lst_str, ii_lst_tuple, ii_lst_list, ii_lst_dict, ii_fz_int, ii_fz_bool, ii_fz_str, ii_fz_tuple, ii_fz_list, ii_fz_dict]
          exact fin _ (no _ rfl (bad fun z => z.go hno c2))
        · simp only [w_Nil, k_Seqn]
          exact done (fun _ => c2) _ nxt fun env hb => fin _ (no _ rfl (bad hb))
      · have hno : ¬ ∀ ns, ¬ Grp k s ns := of_decide_eq_false c
        simp only [k_Iff, w_Nil, k_Seqn]
        exact done (fun z => absurd z hno) _ nxt fun env hb => fin _ (no _ rfl (bad hb))
  · obtain ⟨left, e5, e6, e7, e8, e1, e, eU, hsub, hgood⟩ := hI
    cases left with
    | cons s left => cases e1
    | nil =>
      subst e eU
      simp only [wps, w_C, w_Var, k_Var, w_Bin, k_Bin1, k_Bin2, w_Tst, k_B, w_Chain, k_Ch1, k_Ch2, k_Ch3t, k_Ch3f, k_Ch4, w_And, w_Or, w_Not, k_Andt, k_Andf, k_Ort, k_Orf, k_Not, w_bAnd, w_bOr, w_bNot, w_bYes, k_bAndt, k_bAndf, k_bOrt, k_bOrf, k_bNot, w_dIf, k_dIft, k_dIff, w_aNil, w_aCons, k_Cons1, k_Cons2, w_Tup, w_Lst, w_Cell, k_Tup, k_Lst, k_Cell, w_Call, k_Call, w_CallF, k_CallF, w_CallN, k_CallN, k_New, k_AddN1, w_Un, k_Un, w_Sl, k_Sl1, k_Sl2, k_Sl3, w_No, w_So, k_So, w_iSeq, k_Items, w_Range1, w_Range2, k_Rng1, k_Rng2, w_iEnum, k_Enum, w_Comp, k_Comp, k_AsL, w_TupRg, w_LstRg, k_TupRg, k_LstRg, w_Rev, k_Rev, rev_tup, rev_lst, k_Di1, k_PT1, k_PT2, w_Nil, w_Nop, w_Fl, w_Seq, k_Seqn, k_Seqr, k_Seqb, k_Seqc, w_Expr, k_Drop, w_Ret, k_Ret, w_Set, k_Set, w_Asg, k_Asg1, k_Nx, w_If, k_Ift, k_Iff, w_For, k_For, k_Put1, k_Put2, w_Fun, w_Fun0, k_Funn, k_Funr, w_newK, w_newT, asB_bl, gN, gTupD, gsCons, gsNil, wipeE, itemsOf, seqItems, len_str, add_ii, sub_ii, neg_i, lt_ii, le_ii, gt_ii, ge_ii, eq_ii, ne_ii, eq_ss, ne_ss, isnot_bb, is_bb, is_non, isnot_non, isNonD, ix_tupD, ix_lstD, ix_fzD, at_lit0, at_lit1, at_lit2, at_lit3, len_fz, len_lst, len_tup, List.map_cons, List.map_nil, List.length_cons, List.length_nil, List.getElem?_cons_zero, List.getElem?_cons_succ, List.set_cons_zero, List.set_cons_succ, List.cons_append, List.nil_append, List.replicate_succ, List.replicate_zero, Nat.reduceSub, Nat.reduceAdd, Nat.reduceLeDiff, if_true, if_false, Bool.false_eq_true, Bool.true_eq_false, Bool.not_true, Bool.not_false, Option.bind_some, Option.map_some, Nat.zero_add, ite_true, ite_false, Int.cast_ofNat_Int, Int.natCast_zero, Int.natCast_one, Int.reduceLT, Int.reduceLE, Int.reduceEq, Int.reduceAdd, Int.reduceSub, Int.reduceNeg, decide_true, decide_false, true_and, and_true, le_size, add_ll, add_tt, tuple_lst, tuple_tup, list_tup, list_lst, sl_tup, sl_lst, ii_non_int, ii_non_bool, ii_non_str, ii_non_tuple, ii_non_list, ii_non_dict, ii_bl_int, ii_bl_bool, ii_bl_str, ii_bl_tuple, ii_bl_list, ii_bl_dict, ii_int_int, ii_int_bool, ii_int_str, ii_int_tuple, ii_int_list, ii_int_dict, ii_str_int, ii_str_bool, ii_str_str, ii_str_tuple, ii_str_list, ii_str_dict, ii_tup_int, ii_tup_bool, ii_tup_str, ii_tup_tuple, ii_tup_list, ii_tup_dict, ii_lst_int, ii_lst_bool, ii_lst_str, ii_lst_tuple, ii_lst_list, ii_lst_dict, ii_fz_int, ii_fz_bool, ii_fz_str, ii_fz_tuple, ii_fz_list, ii_fz_dict]
      refine fin _ (Eq.symm (decide_eq_true ⟨by rw [hkv]; exact hlen, by rw [hkv]; exact hin, fun s hs => ?_⟩))
      rw [hkv]
      exact (hgood s hs).elim (fun z => nomatch z) id
open Classical in
theorem due_wp {S : Sto} {k : Int} {cs : List Int} {stands : List (List Int)} {P : D → Sto → Prop} {great : Bool} (h : MeetOk great k cs) (hs : stands.length ≤ 9000) (hl : ∀ s ∈ stands, s.length ≤ 1000) (kk : P (.bl (everB k cs stands)) S) :
    Wp (f__law_e_due [.tup [.int k, .tup (cs.map D.int)], .lst (stands.map tupI)] S) P := by
  have hc5 := h.l5
  unfold f__law_e_due d__law_e_due
  refine wp_frz ?_
  -- what is wanted, at the end
  have fin : ∀ b, b = everB k cs stands → (∀ j d, j < S.length → (S ++ [.dT (tabI (kvOf [] stands))])[j]? = some d → S[j]? = some d ∨ ltC S.length d = true) ∧ ∃ e, mapD (rsv S.length (S ++ [.dT (tabI (kvOf [] stands))]) 64) (.bl b) = some e ∧ P e ((S ++ [Cell.dT (tabI (kvOf [] stands))]).take S.length) := fun b hb => by
    refine ⟨frz_own, .bl b, rfl, ?_⟩
    rw [take_app, hb]
    exact kk
  have no : ∀ x, x = false → everB k cs stands = false → x = everB k cs stands := fun x h1 h2 => h1.trans h2.symm
  simp only [wps, w_C, w_Var, k_Var, w_Bin, k_Bin1, k_Bin2, w_Tst, k_B, w_Chain, k_Ch1, k_Ch2, k_Ch3t, k_Ch3f, k_Ch4, w_And, w_Or, w_Not, k_Andt, k_Andf, k_Ort, k_Orf, k_Not, w_bAnd, w_bOr, w_bNot, w_bYes, k_bAndt, k_bAndf, k_bOrt, k_bOrf, k_bNot, w_dIf, k_dIft, k_dIff, w_aNil, w_aCons, k_Cons1, k_Cons2, w_Tup, w_Lst, w_Cell, k_Tup, k_Lst, k_Cell, w_Call, k_Call, w_CallF, k_CallF, w_CallN, k_CallN, k_New, k_AddN1, w_Un, k_Un, w_Sl, k_Sl1, k_Sl2, k_Sl3, w_No, w_So, k_So, w_iSeq, k_Items, w_Range1, w_Range2, k_Rng1, k_Rng2, w_iEnum, k_Enum, w_Comp, k_Comp, k_AsL, w_TupRg, w_LstRg, k_TupRg, k_LstRg, w_Rev, k_Rev, rev_tup, rev_lst, k_Di1, k_PT1, k_PT2, w_Nil, w_Nop, w_Fl, w_Seq, k_Seqn, k_Seqr, k_Seqb, k_Seqc, w_Expr, k_Drop, w_Ret, k_Ret, w_Set, k_Set, w_Asg, k_Asg1, k_Nx, w_If, k_Ift, k_Iff, w_For, k_For, k_Put1, k_Put2, w_Fun, w_Fun0, k_Funn, k_Funr, w_newK, w_newT, asB_bl, gN, gTupD, gsCons, gsNil, wipeE, itemsOf, seqItems, len_str, add_ii, sub_ii, neg_i, lt_ii, le_ii, gt_ii, ge_ii, eq_ii, ne_ii, eq_ss, ne_ss, isnot_bb, is_bb, is_non, isnot_non, isNonD, ix_tupD, ix_lstD, ix_fzD, at_lit0, at_lit1, at_lit2, at_lit3, len_fz, len_lst, len_tup, List.map_cons, List.map_nil, List.length_cons, List.length_nil, List.getElem?_cons_zero, List.getElem?_cons_succ, List.set_cons_zero, List.set_cons_succ, List.cons_append, List.nil_append, List.replicate_succ, List.replicate_zero, Nat.reduceSub, Nat.reduceAdd, Nat.reduceLeDiff, if_true, if_false, Bool.false_eq_true, Bool.true_eq_false, Bool.not_true, Bool.not_false, Option.bind_some, Option.map_some, Nat.zero_add, ite_true, ite_false, Int.cast_ofNat_Int, Int.natCast_zero, Int.natCast_one, Int.reduceLT, Int.reduceLE, Int.reduceEq, Int.reduceAdd, Int.reduceSub, Int.reduceNeg, decide_true, decide_false, true_and, and_true, le_size, add_ll, add_tt, tuple_lst, tuple_tup, list_tup, list_lst, sl_tup, sl_lst, ii_non_int, ii_non_bool, ii_non_str, ii_non_tuple, ii_non_list, ii_non_dict, ii_bl_int, ii_bl_bool, ii_bl_str, ii_bl_tuple, ii_bl_list, ii_bl_dict, ii_int_int, ii_int_bool, ii_int_str, ii_int_tuple, ii_int_list, ii_int_dict, ii_str_int, ii_str_bool, ii_str_str, ii_str_tuple, ii_str_list, ii_str_dict, ii_tup_int, ii_tup_bool, ii_tup_str, ii_tup_tuple, ii_tup_list, ii_tup_dict, ii_lst_int, ii_lst_bool, ii_lst_str, ii_lst_tuple, ii_lst_list, ii_lst_dict, ii_fz_int, ii_fz_bool, ii_fz_str, ii_fz_tuple, ii_fz_list, ii_fz_dict]
  refine known_wp (t := []) (stands := stands) none (by show 0 + stands.length ≤ 10000; omega) fun e5 => ?_
  have hT : (S ++ [Cell.dT (tabI (kvOf [] stands))])[S.length]? = some (.dT (tabI (kvOf [] stands))) := app_at _ _
  generalize hkv : kvOf [] stands = kvs at hT fin ⊢
  generalize S ++ [Cell.dT (tabI kvs)] = T at hT fin ⊢
  have hcs : oInT true T (.tup (cs.map D.int)) (.ref S.length) = some (.bl (true ^^ (valD kvs cs).isSome)) := inT_I hT true cs
  simp only [wps, w_C, w_Var, k_Var, w_Bin, k_Bin1, k_Bin2, w_Tst, k_B, w_Chain, k_Ch1, k_Ch2, k_Ch3t, k_Ch3f, k_Ch4, w_And, w_Or, w_Not, k_Andt, k_Andf, k_Ort, k_Orf, k_Not, w_bAnd, w_bOr, w_bNot, w_bYes, k_bAndt, k_bAndf, k_bOrt, k_bOrf, k_bNot, w_dIf, k_dIft, k_dIff, w_aNil, w_aCons, k_Cons1, k_Cons2, w_Tup, w_Lst, w_Cell, k_Tup, k_Lst, k_Cell, w_Call, k_Call, w_CallF, k_CallF, w_CallN, k_CallN, k_New, k_AddN1, w_Un, k_Un, w_Sl, k_Sl1, k_Sl2, k_Sl3, w_No, w_So, k_So, w_iSeq, k_Items, w_Range1, w_Range2, k_Rng1, k_Rng2, w_iEnum, k_Enum, w_Comp, k_Comp, k_AsL, w_TupRg, w_LstRg, k_TupRg, k_LstRg, w_Rev, k_Rev, rev_tup, rev_lst, k_Di1, k_PT1, k_PT2, w_Nil, w_Nop, w_Fl, w_Seq, k_Seqn, k_Seqr, k_Seqb, k_Seqc, w_Expr, k_Drop, w_Ret, k_Ret, w_Set, k_Set, w_Asg, k_Asg1, k_Nx, w_If, k_Ift, k_Iff, w_For, k_For, k_Put1, k_Put2, w_Fun, w_Fun0, k_Funn, k_Funr, w_newK, w_newT, asB_bl, gN, gTupD, gsCons, gsNil, wipeE, itemsOf, seqItems, len_str, add_ii, sub_ii, neg_i, lt_ii, le_ii, gt_ii, ge_ii, eq_ii, ne_ii, eq_ss, ne_ss, isnot_bb, is_bb, is_non, isnot_non, isNonD, ix_tupD, ix_lstD, ix_fzD, at_lit0, at_lit1, at_lit2, at_lit3, len_fz, len_lst, len_tup, List.map_cons, List.map_nil, List.length_cons, List.length_nil, List.getElem?_cons_zero, List.getElem?_cons_succ, List.set_cons_zero, List.set_cons_succ, List.cons_append, List.nil_append, List.replicate_succ, List.replicate_zero, Nat.reduceSub, Nat.reduceAdd, Nat.reduceLeDiff, if_true, if_false, Bool.false_eq_true, Bool.true_eq_false, Bool.not_true, Bool.not_false, Option.bind_some, Option.map_some, Nat.zero_add, ite_true, ite_false, Int.cast_ofNat_Int, Int.natCast_zero, Int.natCast_one, Int.reduceLT, Int.reduceLE, Int.reduceEq, Int.reduceAdd, Int.reduceSub, Int.reduceNeg, decide_true, decide_false, true_and, and_true, le_size, add_ll, add_tt, tuple_lst, tuple_tup, list_tup, list_lst, sl_tup, sl_lst, ii_non_int, ii_non_bool, ii_non_str, ii_non_tuple, ii_non_list, ii_non_dict, ii_bl_int, ii_bl_bool, ii_bl_str, ii_bl_tuple, ii_bl_list, ii_bl_dict, ii_int_int, ii_int_bool, ii_int_str, ii_int_tuple, ii_int_list, ii_int_dict, ii_str_int, ii_str_bool, ii_str_str, ii_str_tuple, ii_str_list, ii_str_dict, ii_tup_int, ii_tup_bool, ii_tup_str, ii_tup_tuple, ii_tup_list, ii_tup_dict, ii_lst_int, ii_lst_bool, ii_lst_str, ii_lst_tuple, ii_lst_list, ii_lst_dict, ii_fz_int, ii_fz_bool, ii_fz_str, ii_fz_tuple, ii_fz_list, ii_fz_dict, lenT_I hT, List.length_map]
  refine k_bOrc (fun c => ?_) fun c => ?_
  · simp only [wps, w_C, w_Var, k_Var, w_Bin, k_Bin1, k_Bin2, w_Tst, k_B, w_Chain, k_Ch1, k_Ch2, k_Ch3t, k_Ch3f, k_Ch4, w_And, w_Or, w_Not, k_Andt, k_Andf, k_Ort, k_Orf, k_Not, w_bAnd, w_bOr, w_bNot, w_bYes, k_bAndt, k_bAndf, k_bOrt, k_bOrf, k_bNot, w_dIf, k_dIft, k_dIff, w_aNil, w_aCons, k_Cons1, k_Cons2, w_Tup, w_Lst, w_Cell, k_Tup, k_Lst, k_Cell, w_Call, k_Call, w_CallF, k_CallF, w_CallN, k_CallN, k_New, k_AddN1, w_Un, k_Un, w_Sl, k_Sl1, k_Sl2, k_Sl3, w_No, w_So, k_So, w_iSeq, k_Items, w_Range1, w_Range2, k_Rng1, k_Rng2, w_iEnum, k_Enum, w_Comp, k_Comp, k_AsL, w_TupRg, w_LstRg, k_TupRg, k_LstRg, w_Rev, k_Rev, rev_tup, rev_lst, k_Di1, k_PT1, k_PT2, w_Nil, w_Nop, w_Fl, w_Seq, k_Seqn, k_Seqr, k_Seqb, k_Seqc, w_Expr, k_Drop, w_Ret, k_Ret, w_Set, k_Set, w_Asg, k_Asg1, k_Nx, w_If, k_Ift, k_Iff, w_For, k_For, k_Put1, k_Put2, w_Fun, w_Fun0, k_Funn, k_Funr, w_newK, w_newT, asB_bl, gN, gTupD, gsCons, gsNil, wipeE, itemsOf, seqItems, len_str, add_ii, sub_ii, neg_i, lt_ii, le_ii, gt_ii, ge_ii, eq_ii, ne_ii, eq_ss, ne_ss, isnot_bb, is_bb, is_non, isnot_non, isNonD, ix_tupD, ix_lstD, ix_fzD, at_lit0, at_lit1, at_lit2, at_lit3, len_fz, len_lst, len_tup, List.map_cons, List.map_nil, List.length_cons, List.length_nil, List.getElem?_cons_zero, List.getElem?_cons_succ, List.set_cons_zero, List.set_cons_succ, List.cons_append, List.nil_append, List.replicate_succ, List.replicate_zero, Nat.reduceSub, Nat.reduceAdd, Nat.reduceLeDiff, if_true, if_false, Bool.false_eq_true, Bool.true_eq_false, Bool.not_true, Bool.not_false, Option.bind_some, Option.map_some, Nat.zero_add, ite_true, ite_false, Int.cast_ofNat_Int, Int.natCast_zero, Int.natCast_one, Int.reduceLT, Int.reduceLE, Int.reduceEq, Int.reduceAdd, Int.reduceSub, Int.reduceNeg, decide_true, decide_false, true_and, and_true, le_size, add_ll, add_tt, tuple_lst, tuple_tup, list_tup, list_lst, sl_tup, sl_lst, ii_non_int, ii_non_bool, ii_non_str, ii_non_tuple, ii_non_list, ii_non_dict, ii_bl_int, ii_bl_bool, ii_bl_str, ii_bl_tuple, ii_bl_list, ii_bl_dict, ii_int_int, ii_int_bool, ii_int_str, ii_int_tuple, ii_int_list, ii_int_dict, ii_str_int, ii_str_bool, ii_str_str, ii_str_tuple, ii_str_list, ii_str_dict, ii_tup_int, ii_tup_bool, ii_tup_str, ii_tup_tuple, ii_tup_list, ii_tup_dict, ii_lst_int, ii_lst_bool, ii_lst_str, ii_lst_tuple, ii_lst_list, ii_lst_dict, ii_fz_int, ii_fz_bool, ii_fz_str, ii_fz_tuple, ii_fz_list, ii_fz_dict]
    refine fin _ (no _ rfl (decide_eq_false fun z => ?_))
    have z1 := z.1
    rw [hkv] at z1
    rw [z1] at c
    simp at c
  have hlen : kvs.length = stands.length := by
    have : ((kvs.length : Nat) : Int) = stands.length := by simpa using c
    omega
  simp only [wps, w_C, w_Var, k_Var, w_Bin, k_Bin1, k_Bin2, w_Tst, k_B, w_Chain, k_Ch1, k_Ch2, k_Ch3t, k_Ch3f, k_Ch4, w_And, w_Or, w_Not, k_Andt, k_Andf, k_Ort, k_Orf, k_Not, w_bAnd, w_bOr, w_bNot, w_bYes, k_bAndt, k_bAndf, k_bOrt, k_bOrf, k_bNot, w_dIf, k_dIft, k_dIff, w_aNil, w_aCons, k_Cons1, k_Cons2, w_Tup, w_Lst, w_Cell, k_Tup, k_Lst, k_Cell, w_Call, k_Call, w_CallF, k_CallF, w_CallN, k_CallN, k_New, k_AddN1, w_Un, k_Un, w_Sl, k_Sl1, k_Sl2, k_Sl3, w_No, w_So, k_So, w_iSeq, k_Items, w_Range1, w_Range2, k_Rng1, k_Rng2, w_iEnum, k_Enum, w_Comp, k_Comp, k_AsL, w_TupRg, w_LstRg, k_TupRg, k_LstRg, w_Rev, k_Rev, rev_tup, rev_lst, k_Di1, k_PT1, k_PT2, w_Nil, w_Nop, w_Fl, w_Seq, k_Seqn, k_Seqr, k_Seqb, k_Seqc, w_Expr, k_Drop, w_Ret, k_Ret, w_Set, k_Set, w_Asg, k_Asg1, k_Nx, w_If, k_Ift, k_Iff, w_For, k_For, k_Put1, k_Put2, w_Fun, w_Fun0, k_Funn, k_Funr, w_newK, w_newT, asB_bl, gN, gTupD, gsCons, gsNil, wipeE, itemsOf, seqItems, len_str, add_ii, sub_ii, neg_i, lt_ii, le_ii, gt_ii, ge_ii, eq_ii, ne_ii, eq_ss, ne_ss, isnot_bb, is_bb, is_non, isnot_non, isNonD, ix_tupD, ix_lstD, ix_fzD, at_lit0, at_lit1, at_lit2, at_lit3, len_fz, len_lst, len_tup, List.map_cons, List.map_nil, List.length_cons, List.length_nil, List.getElem?_cons_zero, List.getElem?_cons_succ, List.set_cons_zero, List.set_cons_succ, List.cons_append, List.nil_append, List.replicate_succ, List.replicate_zero, Nat.reduceSub, Nat.reduceAdd, Nat.reduceLeDiff, if_true, if_false, Bool.false_eq_true, Bool.true_eq_false, Bool.not_true, Bool.not_false, Option.bind_some, Option.map_some, Nat.zero_add, ite_true, ite_false, Int.cast_ofNat_Int, Int.natCast_zero, Int.natCast_one, Int.reduceLT, Int.reduceLE, Int.reduceEq, Int.reduceAdd, Int.reduceSub, Int.reduceNeg, decide_true, decide_false, true_and, and_true, le_size, add_ll, add_tt, tuple_lst, tuple_tup, list_tup, list_lst, sl_tup, sl_lst, ii_non_int, ii_non_bool, ii_non_str, ii_non_tuple, ii_non_list, ii_non_dict, ii_bl_int, ii_bl_bool, ii_bl_str, ii_bl_tuple, ii_bl_list, ii_bl_dict, ii_int_int, ii_int_bool, ii_int_str, ii_int_tuple, ii_int_list, ii_int_dict, ii_str_int, ii_str_bool, ii_str_str, ii_str_tuple, ii_str_list, ii_str_dict, ii_tup_int, ii_tup_bool, ii_tup_str, ii_tup_tuple, ii_tup_list, ii_tup_dict, ii_lst_int, ii_lst_bool, ii_lst_str, ii_lst_tuple, ii_lst_list, ii_lst_dict, ii_fz_int, ii_fz_bool, ii_fz_str, ii_fz_tuple, ii_fz_list, ii_fz_dict, hcs]
  refine k_Ifc (fun c2 => ?_) fun c2 => ?_
  · simp only [wps, w_C, w_Var, k_Var, w_Bin, k_Bin1, k_Bin2, w_Tst, k_B, w_Chain, k_Ch1, k_Ch2, k_Ch3t, k_Ch3f, k_Ch4, w_And, w_Or, w_Not, k_Andt, k_Andf, k_Ort, k_Orf, k_Not, w_bAnd, w_bOr, w_bNot, w_bYes, k_bAndt, k_bAndf, k_bOrt, k_bOrf, k_bNot, w_dIf, k_dIft, k_dIff, w_aNil, w_aCons, k_Cons1, k_Cons2, w_Tup, w_Lst, w_Cell, k_Tup, k_Lst, k_Cell, w_Call, k_Call, w_CallF, k_CallF, w_CallN, k_CallN, k_New, k_AddN1, w_Un, k_Un, w_Sl, k_Sl1, k_Sl2, k_Sl3, w_No, w_So, k_So, w_iSeq, k_Items, w_Range1, w_Range2, k_Rng1, k_Rng2, w_iEnum, k_Enum, w_Comp, k_Comp, k_AsL, w_TupRg, w_LstRg, k_TupRg, k_LstRg, w_Rev, k_Rev, rev_tup, rev_lst, k_Di1, k_PT1, k_PT2, w_Nil, w_Nop, w_Fl, w_Seq, k_Seqn, k_Seqr, k_Seqb, k_Seqc, w_Expr, k_Drop, w_Ret, k_Ret, w_Set, k_Set, w_Asg, k_Asg1, k_Nx, w_If, k_Ift, k_Iff, w_For, k_For, k_Put1, k_Put2, w_Fun, w_Fun0, k_Funn, k_Funr, w_newK, w_newT, asB_bl, gN, gTupD, gsCons, gsNil, wipeE, itemsOf, seqItems, len_str, add_ii, sub_ii, neg_i, lt_ii, le_ii, gt_ii, ge_ii, eq_ii, ne_ii, eq_ss, ne_ss, isnot_bb, is_bb, is_non, isnot_non, isNonD, ix_tupD, ix_lstD, ix_fzD, at_lit0, at_lit1, at_lit2, at_lit3, len_fz, len_lst, len_tup, List.map_cons, List.map_nil, List.length_cons, List.length_nil, List.getElem?_cons_zero, List.getElem?_cons_succ, List.set_cons_zero, List.set_cons_succ, List.cons_append, List.nil_append, List.replicate_succ, List.replicate_zero, Nat.reduceSub, Nat.reduceAdd, Nat.reduceLeDiff, if_true, if_false, Bool.false_eq_true, Bool.true_eq_false, Bool.not_true, Bool.not_false, Option.bind_some, Option.map_some, Nat.zero_add, ite_true, ite_false, Int.cast_ofNat_Int, Int.natCast_zero, Int.natCast_one, Int.reduceLT, Int.reduceLE, Int.reduceEq, Int.reduceAdd, Int.reduceSub, Int.reduceNeg, decide_true, decide_false, true_and, and_true, le_size, add_ll, add_tt, tuple_lst, tuple_tup, list_tup, list_lst, sl_tup, sl_lst, ii_non_int, ii_non_bool, ii_non_str, ii_non_tuple, ii_non_list, ii_non_dict, ii_bl_int, ii_bl_bool, ii_bl_str, ii_bl_tuple, ii_bl_list, ii_bl_dict, ii_int_int, ii_int_bool, ii_int_str, ii_int_tuple, ii_int_list, ii_int_dict, ii_str_int, ii_str_bool, ii_str_str, ii_str_tuple, ii_str_list, ii_str_dict, ii_tup_int, ii_tup_bool, ii_tup_str, ii_tup_tuple, ii_tup_list, ii_tup_dict, ii_lst_int, ii_lst_bool, ii_lst_str, ii_lst_tuple, ii_lst_list, ii_lst_dict, ii_fz_int, ii_fz_bool, ii_fz_str, ii_fz_tuple, ii_fz_list, ii_fz_dict]
    refine fin _ (no _ rfl (decide_eq_false fun z => ?_))
    rw [hkv] at z
    rw [z.2.1] at c2
    cases c2
  have hin : (valD kvs cs).isSome = true := by simpa using c2
  simp only [wps, w_C, w_Var, k_Var, w_Bin, k_Bin1, k_Bin2, w_Tst, k_B, w_Chain, k_Ch1, k_Ch2, k_Ch3t, k_Ch3f, k_Ch4, w_And, w_Or, w_Not, k_Andt, k_Andf, k_Ort, k_Orf, k_Not, w_bAnd, w_bOr, w_bNot, w_bYes, k_bAndt, k_bAndf, k_bOrt, k_bOrf, k_bNot, w_dIf, k_dIft, k_dIff, w_aNil, w_aCons, k_Cons1, k_Cons2, w_Tup, w_Lst, w_Cell, k_Tup, k_Lst, k_Cell, w_Call, k_Call, w_CallF, k_CallF, w_CallN, k_CallN, k_New, k_AddN1, w_Un, k_Un, w_Sl, k_Sl1, k_Sl2, k_Sl3, w_No, w_So, k_So, w_iSeq, k_Items, w_Range1, w_Range2, k_Rng1, k_Rng2, w_iEnum, k_Enum, w_Comp, k_Comp, k_AsL, w_TupRg, w_LstRg, k_TupRg, k_LstRg, w_Rev, k_Rev, rev_tup, rev_lst, k_Di1, k_PT1, k_PT2, w_Nil, w_Nop, w_Fl, w_Seq, k_Seqn, k_Seqr, k_Seqb, k_Seqc, w_Expr, k_Drop, w_Ret, k_Ret, w_Set, k_Set, w_Asg, k_Asg1, k_Nx, w_If, k_Ift, k_Iff, w_For, k_For, k_Put1, k_Put2, w_Fun, w_Fun0, k_Funn, k_Funr, w_newK, w_newT, asB_bl, gN, gTupD, gsCons, gsNil, wipeE, itemsOf, seqItems, len_str, add_ii, sub_ii, neg_i, lt_ii, le_ii, gt_ii, ge_ii, eq_ii, ne_ii, eq_ss, ne_ss, isnot_bb, is_bb, is_non, isnot_non, isNonD, ix_tupD, ix_lstD, ix_fzD, at_lit0, at_lit1, at_lit2, at_lit3, len_fz, len_lst, len_tup, List.map_cons, List.map_nil, List.length_cons, List.length_nil, List.getElem?_cons_zero, List.getElem?_cons_succ, List.set_cons_zero, List.set_cons_succ, List.cons_append, List.nil_append, List.replicate_succ, List.replicate_zero, Nat.reduceSub, Nat.reduceAdd, Nat.reduceLeDiff, if_true, if_false, Bool.false_eq_true, Bool.true_eq_false, Bool.not_true, Bool.not_false, Option.bind_some, Option.map_some, Nat.zero_add, ite_true, ite_false, Int.cast_ofNat_Int, Int.natCast_zero, Int.natCast_one, Int.reduceLT, Int.reduceLE, Int.reduceEq, Int.reduceAdd, Int.reduceSub, Int.reduceNeg, decide_true, decide_false, true_and, and_true, le_size, add_ll, add_tt, tuple_lst, tuple_tup, list_tup, list_lst, sl_tup, sl_lst, ii_non_int, ii_non_bool, ii_non_str, ii_non_tuple, ii_non_list, ii_non_dict, ii_bl_int, ii_bl_bool, ii_bl_str, ii_bl_tuple, ii_bl_list, ii_bl_dict, ii_int_int, ii_int_bool, ii_int_str, ii_int_tuple, ii_int_list, ii_int_dict, ii_str_int, ii_str_bool, ii_str_str, ii_str_tuple, ii_str_list, ii_str_dict, ii_tup_int, ii_tup_bool, ii_tup_str, ii_tup_tuple, ii_tup_list, ii_tup_dict, ii_lst_int, ii_lst_bool, ii_lst_str, ii_lst_tuple, ii_lst_list, ii_lst_dict, ii_fz_int, ii_fz_bool, ii_fz_str, ii_fz_tuple, ii_fz_list, ii_fz_dict]
  refine forGo_wp (fun rest env U => ∃ (left : List (List Int)) (e5 e6 e7 e8 : Option D), rest = left.map tupI ∧ env = [some (.tup [.int k, .tup (cs.map D.int)]), some (.lst (stands.map tupI)), some (.int k), some (.tup (cs.map D.int)), some (.ref S.length), e5, e6, e7, e8] ∧ U = T ∧ (∀ s ∈ left, s ∈ stands) ∧ ∀ s ∈ stands, s ∈ left ∨ GoodS k cs.length kvs s) _ _ _
    ⟨stands, _, _, _, _, rfl, rfl, rfl, fun _ h => h, fun _ h => .inl h⟩ (fun d rest env U hI => ?_) fun env U hI => ?_
  · obtain ⟨left, e5, e6, e7, e8, e1, e, eU, hsub, hgood⟩ := hI
    cases left with
    | nil => cases e1
    | cons s left =>
      obtain ⟨ed, er⟩ := List.cons.inj e1
      subst e eU ed
      have hms := hsub s List.mem_cons_self
      have hsl := hl s hms
      have bad : ¬ GoodS k cs.length kvs s → everB k cs stands = false := fun hb => decide_eq_false fun z => hb (by rw [← hkv]; exact z.2.2 s hms)
      refine ⟨_, rfl, ?_⟩
      have hlenS : oLen U [tupI s] = some (.int s.length) := by show some (D.int ((s.map D.int).length : Nat)) = _; rw [List.length_map]
      simp only [wps, w_C, w_Var, k_Var, w_Bin, k_Bin1, k_Bin2, w_Tst, k_B, w_Chain, k_Ch1, k_Ch2, k_Ch3t, k_Ch3f, k_Ch4, w_And, w_Or, w_Not, k_Andt, k_Andf, k_Ort, k_Orf, k_Not, w_bAnd, w_bOr, w_bNot, w_bYes, k_bAndt, k_bAndf, k_bOrt, k_bOrf, k_bNot, w_dIf, k_dIft, k_dIff, w_aNil, w_aCons, k_Cons1, k_Cons2, w_Tup, w_Lst, w_Cell, k_Tup, k_Lst, k_Cell, w_Call, k_Call, w_CallF, k_CallF, w_CallN, k_CallN, k_New, k_AddN1, w_Un, k_Un, w_Sl, k_Sl1, k_Sl2, k_Sl3, w_No, w_So, k_So, w_iSeq, k_Items, w_Range1, w_Range2, k_Rng1, k_Rng2, w_iEnum, k_Enum, w_Comp, k_Comp, k_AsL, w_TupRg, w_LstRg, k_TupRg, k_LstRg, w_Rev, k_Rev, rev_tup, rev_lst, k_Di1, k_PT1, k_PT2, w_Nil, w_Nop, w_Fl, w_Seq, k_Seqn, k_Seqr, k_Seqb, k_Seqc, w_Expr, k_Drop, w_Ret, k_Ret, w_Set, k_Set, w_Asg, k_Asg1, k_Nx, w_If, k_Ift, k_Iff, w_For, k_For, k_Put1, k_Put2, w_Fun, w_Fun0, k_Funn, k_Funr, w_newK, w_newT, asB_bl, gN, gTupD, gsCons, gsNil, wipeE, itemsOf, seqItems, len_str, add_ii, sub_ii, neg_i, lt_ii, le_ii, gt_ii, ge_ii, eq_ii, ne_ii, eq_ss, ne_ss, isnot_bb, is_bb, is_non, isnot_non, isNonD, ix_tupD, ix_lstD, ix_fzD, at_lit0, at_lit1, at_lit2, at_lit3, len_fz, len_lst, len_tup, List.map_cons, List.map_nil, List.length_cons, List.length_nil, List.getElem?_cons_zero, List.getElem?_cons_succ, List.set_cons_zero, List.set_cons_succ, List.cons_append, List.nil_append, List.replicate_succ, List.replicate_zero, Nat.reduceSub, Nat.reduceAdd, Nat.reduceLeDiff, if_true, if_false, Bool.false_eq_true, Bool.true_eq_false, Bool.not_true, Bool.not_false, Option.bind_some, Option.map_some, Nat.zero_add, ite_true, ite_false, Int.cast_ofNat_Int, Int.natCast_zero, Int.natCast_one, Int.reduceLT, Int.reduceLE, Int.reduceEq, Int.reduceAdd, Int.reduceSub, Int.reduceNeg, decide_true, decide_false, true_and, and_true, le_size, add_ll, add_tt, tuple_lst, tuple_tup, list_tup, list_lst, sl_tup, sl_lst, ii_non_int, ii_non_bool, ii_non_str, ii_non_tuple, ii_non_list, ii_non_dict, ii_bl_int, ii_bl_bool, ii_bl_str, ii_bl_tuple, ii_bl_list, ii_bl_dict, ii_int_int, ii_int_bool, ii_int_str, ii_int_tuple, ii_int_list, ii_int_dict, ii_str_int, ii_str_bool, ii_str_str, ii_str_tuple, ii_str_list, ii_str_dict, ii_tup_int, ii_tup_bool, ii_tup_str, ii_tup_tuple, ii_tup_list, ii_tup_dict, ii_lst_int, ii_lst_bool, ii_lst_str, ii_lst_tuple, ii_lst_list, ii_lst_dict, ii_fz_int, ii_fz_bool, ii_fz_str, ii_fz_tuple, ii_fz_list, ii_fz_dict, hlenS, List.length_map]
      refine k_bOrc (fun c => ?_) fun c => ?_
      · simp only [wps, w_C, w_Var, k_Var, w_Bin, k_Bin1, k_Bin2, w_Tst, k_B, w_Chain, k_Ch1, k_Ch2, k_Ch3t, k_Ch3f, k_Ch4, w_And, w_Or, w_Not, k_Andt, k_Andf, k_Ort, k_Orf, k_Not, w_bAnd, w_bOr, w_bNot, w_bYes, k_bAndt, k_bAndf, k_bOrt, k_bOrf, k_bNot, w_dIf, k_dIft, k_dIff, w_aNil, w_aCons, k_Cons1, k_Cons2, w_Tup, w_Lst, w_Cell, k_Tup, k_Lst, k_Cell, w_Call, k_Call, w_CallF, k_CallF, w_CallN, k_CallN, k_New, k_AddN1, w_Un, k_Un, w_Sl, k_Sl1, k_Sl2, k_Sl3, w_No, w_So, k_So, w_iSeq, k_Items, w_Range1, w_Range2, k_Rng1, k_Rng2, w_iEnum, k_Enum, w_Comp, k_Comp, k_AsL, w_TupRg, w_LstRg, k_TupRg, k_LstRg, w_Rev, k_Rev, rev_tup, rev_lst, k_Di1, k_PT1, k_PT2, w_Nil, w_Nop, w_Fl, w_Seq, k_Seqn, k_Seqr, k_Seqb, k_Seqc, w_Expr, k_Drop, w_Ret, k_Ret, w_Set, k_Set, w_Asg, k_Asg1, k_Nx, w_If, k_Ift, k_Iff, w_For, k_For, k_Put1, k_Put2, w_Fun, w_Fun0, k_Funn, k_Funr, w_newK, w_newT, asB_bl, gN, gTupD, gsCons, gsNil, wipeE, itemsOf, seqItems, len_str, add_ii, sub_ii, neg_i, lt_ii, le_ii, gt_ii, ge_ii, eq_ii, ne_ii, eq_ss, ne_ss, isnot_bb, is_bb, is_non, isnot_non, isNonD, ix_tupD, ix_lstD, ix_fzD, at_lit0, at_lit1, at_lit2, at_lit3, len_fz, len_lst, len_tup, List.map_cons, List.map_nil, List.length_cons, List.length_nil, List.getElem?_cons_zero, List.getElem?_cons_succ, List.set_cons_zero, List.set_cons_succ, List.cons_append, List.nil_append, List.replicate_succ, List.replicate_zero, Nat.reduceSub, Nat.reduceAdd, Nat.reduceLeDiff, if_true, if_false, Bool.false_eq_true, Bool.true_eq_false, Bool.not_true, Bool.not_false, Option.bind_some, Option.map_some, Nat.zero_add, ite_true, ite_false, Int.cast_ofNat_Int, Int.natCast_zero, Int.natCast_one, Int.reduceLT, Int.reduceLE, Int.reduceEq, Int.reduceAdd, Int.reduceSub, Int.reduceNeg, decide_true, decide_false, true_and, and_true, le_size, add_ll, add_tt, tuple_lst, tuple_tup, list_tup, list_lst, sl_tup, sl_lst, ii_non_int, ii_non_bool, ii_non_str, ii_non_tuple, ii_non_list, ii_non_dict, ii_bl_int, ii_bl_bool, ii_bl_str, ii_bl_tuple, ii_bl_list, ii_bl_dict, ii_int_int, ii_int_bool, ii_int_str, ii_int_tuple, ii_int_list, ii_int_dict, ii_str_int, ii_str_bool, ii_str_str, ii_str_tuple, ii_str_list, ii_str_dict, ii_tup_int, ii_tup_bool, ii_tup_str, ii_tup_tuple, ii_tup_list, ii_tup_dict, ii_lst_int, ii_lst_bool, ii_lst_str, ii_lst_tuple, ii_lst_list, ii_lst_dict, ii_fz_int, ii_fz_bool, ii_fz_str, ii_fz_tuple, ii_fz_list, ii_fz_dict]
        refine fin _ (no _ rfl (bad fun z => ?_))
        rw [z.len] at c
        simp at c
      have hsn : s.length = cs.length := by
        have : ((s.length : Nat) : Int) = cs.length := by simpa using c
        omega
      simp only [wps, w_C, w_Var, k_Var, w_Bin, k_Bin1, k_Bin2, w_Tst, k_B, w_Chain, k_Ch1, k_Ch2, k_Ch3t, k_Ch3f, k_Ch4, w_And, w_Or, w_Not, k_Andt, k_Andf, k_Ort, k_Orf, k_Not, w_bAnd, w_bOr, w_bNot, w_bYes, k_bAndt, k_bAndf, k_bOrt, k_bOrf, k_bNot, w_dIf, k_dIft, k_dIff, w_aNil, w_aCons, k_Cons1, k_Cons2, w_Tup, w_Lst, w_Cell, k_Tup, k_Lst, k_Cell, w_Call, k_Call, w_CallF, k_CallF, w_CallN, k_CallN, k_New, k_AddN1, w_Un, k_Un, w_Sl, k_Sl1, k_Sl2, k_Sl3, w_No, w_So, k_So, w_iSeq, k_Items, w_Range1, w_Range2, k_Rng1, k_Rng2, w_iEnum, k_Enum, w_Comp, k_Comp, k_AsL, w_TupRg, w_LstRg, k_TupRg, k_LstRg, w_Rev, k_Rev, rev_tup, rev_lst, k_Di1, k_PT1, k_PT2, w_Nil, w_Nop, w_Fl, w_Seq, k_Seqn, k_Seqr, k_Seqb, k_Seqc, w_Expr, k_Drop, w_Ret, k_Ret, w_Set, k_Set, w_Asg, k_Asg1, k_Nx, w_If, k_Ift, k_Iff, w_For, k_For, k_Put1, k_Put2, w_Fun, w_Fun0, k_Funn, k_Funr, w_newK, w_newT, asB_bl, gN, gTupD, gsCons, gsNil, wipeE, itemsOf, seqItems, len_str, add_ii, sub_ii, neg_i, lt_ii, le_ii, gt_ii, ge_ii, eq_ii, ne_ii, eq_ss, ne_ss, isnot_bb, is_bb, is_non, isnot_non, isNonD, ix_tupD, ix_lstD, ix_fzD, at_lit0, at_lit1, at_lit2, at_lit3, len_fz, len_lst, len_tup, List.map_cons, List.map_nil, List.length_cons, List.length_nil, List.getElem?_cons_zero, List.getElem?_cons_succ, List.set_cons_zero, List.set_cons_succ, List.cons_append, List.nil_append, List.replicate_succ, List.replicate_zero, Nat.reduceSub, Nat.reduceAdd, Nat.reduceLeDiff, if_true, if_false, Bool.false_eq_true, Bool.true_eq_false, Bool.not_true, Bool.not_false, Option.bind_some, Option.map_some, Nat.zero_add, ite_true, ite_false, Int.cast_ofNat_Int, Int.natCast_zero, Int.natCast_one, Int.reduceLT, Int.reduceLE, Int.reduceEq, Int.reduceAdd, Int.reduceSub, Int.reduceNeg, decide_true, decide_false, true_and, and_true, le_size, add_ll, add_tt, tuple_lst, tuple_tup, list_tup, list_lst, sl_tup, sl_lst, ii_non_int, ii_non_bool, ii_non_str, ii_non_tuple, ii_non_list, ii_non_dict, ii_bl_int, ii_bl_bool, ii_bl_str, ii_bl_tuple, ii_bl_list, ii_bl_dict, ii_int_int, ii_int_bool, ii_int_str, ii_int_tuple, ii_int_list, ii_int_dict, ii_str_int, ii_str_bool, ii_str_str, ii_str_tuple, ii_str_list, ii_str_dict, ii_tup_int, ii_tup_bool, ii_tup_str, ii_tup_tuple, ii_tup_list, ii_tup_dict, ii_lst_int, ii_lst_bool, ii_lst_str, ii_lst_tuple, ii_lst_list, ii_lst_dict, ii_fz_int, ii_fz_bool, ii_fz_str, ii_fz_tuple, ii_fz_list, ii_fz_dict]
      show Wp (lift (seqItems (.tup (s.map D.int))) U) _
      simp only [wps, w_C, w_Var, k_Var, w_Bin, k_Bin1, k_Bin2, w_Tst, k_B, w_Chain, k_Ch1, k_Ch2, k_Ch3t, k_Ch3f, k_Ch4, w_And, w_Or, w_Not, k_Andt, k_Andf, k_Ort, k_Orf, k_Not, w_bAnd, w_bOr, w_bNot, w_bYes, k_bAndt, k_bAndf, k_bOrt, k_bOrf, k_bNot, w_dIf, k_dIft, k_dIff, w_aNil, w_aCons, k_Cons1, k_Cons2, w_Tup, w_Lst, w_Cell, k_Tup, k_Lst, k_Cell, w_Call, k_Call, w_CallF, k_CallF, w_CallN, k_CallN, k_New, k_AddN1, w_Un, k_Un, w_Sl, k_Sl1, k_Sl2, k_Sl3, w_No, w_So, k_So, w_iSeq, k_Items, w_Range1, w_Range2, k_Rng1, k_Rng2, w_iEnum, k_Enum, w_Comp, k_Comp, k_AsL, w_TupRg, w_LstRg, k_TupRg, k_LstRg, w_Rev, k_Rev, rev_tup, rev_lst, k_Di1, k_PT1, k_PT2, w_Nil, w_Nop, w_Fl, w_Seq, k_Seqn, k_Seqr, k_Seqb, k_Seqc, w_Expr, k_Drop, w_Ret, k_Ret, w_Set, k_Set, w_Asg, k_Asg1, k_Nx, w_If, k_Ift, k_Iff, w_For, k_For, k_Put1, k_Put2, w_Fun, w_Fun0, k_Funn, k_Funr, w_newK, w_newT, asB_bl, gN, gTupD, gsCons, gsNil, wipeE, itemsOf, seqItems, len_str, add_ii, sub_ii, neg_i, lt_ii, le_ii, gt_ii, ge_ii, eq_ii, ne_ii, eq_ss, ne_ss, isnot_bb, is_bb, is_non, isnot_non, isNonD, ix_tupD, ix_lstD, ix_fzD, at_lit0, at_lit1, at_lit2, at_lit3, len_fz, len_lst, len_tup, List.map_cons, List.map_nil, List.length_cons, List.length_nil, List.getElem?_cons_zero, List.getElem?_cons_succ, List.set_cons_zero, List.set_cons_succ, List.cons_append, List.nil_append, List.replicate_succ, List.replicate_zero, Nat.reduceSub, Nat.reduceAdd, Nat.reduceLeDiff, if_true, if_false, Bool.false_eq_true, Bool.true_eq_false, Bool.not_true, Bool.not_false, Option.bind_some, Option.map_some, Nat.zero_add, ite_true, ite_false, Int.cast_ofNat_Int, Int.natCast_zero, Int.natCast_one, Int.reduceLT, Int.reduceLE, Int.reduceEq, Int.reduceAdd, Int.reduceSub, Int.reduceNeg, decide_true, decide_false, true_and, and_true, le_size, add_ll, add_tt, tuple_lst, tuple_tup, list_tup, list_lst, sl_tup, sl_lst, ii_non_int, ii_non_bool, ii_non_str, ii_non_tuple, ii_non_list, ii_non_dict, ii_bl_int, ii_bl_bool, ii_bl_str, ii_bl_tuple, ii_bl_list, ii_bl_dict, ii_int_int, ii_int_bool, ii_int_str, ii_int_tuple, ii_int_list, ii_int_dict, ii_str_int, ii_str_bool, ii_str_str, ii_str_tuple, ii_str_list, ii_str_dict, ii_tup_int, ii_tup_bool, ii_tup_str, ii_tup_tuple, ii_tup_list, ii_tup_dict, ii_lst_int, ii_lst_bool, ii_lst_str, ii_lst_tuple, ii_lst_list, ii_lst_dict, ii_fz_int, ii_fz_bool, ii_fz_str, ii_fz_tuple, ii_fz_list, ii_fz_dict]
      refine ent_wp hsl (fun c => ⟨_, rfl, rfl⟩) ?_
      simp only [wps, w_C, w_Var, k_Var, w_Bin, k_Bin1, k_Bin2, w_Tst, k_B, w_Chain, k_Ch1, k_Ch2, k_Ch3t, k_Ch3f, k_Ch4, w_And, w_Or, w_Not, k_Andt, k_Andf, k_Ort, k_Orf, k_Not, w_bAnd, w_bOr, w_bNot, w_bYes, k_bAndt, k_bAndf, k_bOrt, k_bOrf, k_bNot, w_dIf, k_dIft, k_dIff, w_aNil, w_aCons, k_Cons1, k_Cons2, w_Tup, w_Lst, w_Cell, k_Tup, k_Lst, k_Cell, w_Call, k_Call, w_CallF, k_CallF, w_CallN, k_CallN, k_New, k_AddN1, w_Un, k_Un, w_Sl, k_Sl1, k_Sl2, k_Sl3, w_No, w_So, k_So, w_iSeq, k_Items, w_Range1, w_Range2, k_Rng1, k_Rng2, w_iEnum, k_Enum, w_Comp, k_Comp, k_AsL, w_TupRg, w_LstRg, k_TupRg, k_LstRg, w_Rev, k_Rev, rev_tup, rev_lst, k_Di1, k_PT1, k_PT2, w_Nil, w_Nop, w_Fl, w_Seq, k_Seqn, k_Seqr, k_Seqb, k_Seqc, w_Expr, k_Drop, w_Ret, k_Ret, w_Set, k_Set, w_Asg, k_Asg1, k_Nx, w_If, k_Ift, k_Iff, w_For, k_For, k_Put1, k_Put2, w_Fun, w_Fun0, k_Funn, k_Funr, w_newK, w_newT, asB_bl, gN, gTupD, gsCons, gsNil, wipeE, itemsOf, seqItems, len_str, add_ii, sub_ii, neg_i, lt_ii, le_ii, gt_ii, ge_ii, eq_ii, ne_ii, eq_ss, ne_ss, isnot_bb, is_bb, is_non, isnot_non, isNonD, ix_tupD, ix_lstD, ix_fzD, at_lit0, at_lit1, at_lit2, at_lit3, len_fz, len_lst, len_tup, List.map_cons, List.map_nil, List.length_cons, List.length_nil, List.getElem?_cons_zero, List.getElem?_cons_succ, List.set_cons_zero, List.set_cons_succ, List.cons_append, List.nil_append, List.replicate_succ, List.replicate_zero, Nat.reduceSub, Nat.reduceAdd, Nat.reduceLeDiff, if_true, if_false, Bool.false_eq_true, Bool.true_eq_false, Bool.not_true, Bool.not_false, Option.bind_some, Option.map_some, Nat.zero_add, ite_true, ite_false, Int.cast_ofNat_Int, Int.natCast_zero, Int.natCast_one, Int.reduceLT, Int.reduceLE, Int.reduceEq, Int.reduceAdd, Int.reduceSub, Int.reduceNeg, decide_true, decide_false, true_and, and_true, le_size, add_ll, add_tt, tuple_lst, tuple_tup, list_tup, list_lst, sl_tup, sl_lst, ii_non_int, ii_non_bool, ii_non_str, ii_non_tuple, ii_non_list, ii_non_dict, ii_bl_int, ii_bl_bool, ii_bl_str, ii_bl_tuple, ii_bl_list, ii_bl_dict, ii_int_int, ii_int_bool, ii_int_str, ii_int_tuple, ii_int_list, ii_int_dict, ii_str_int, ii_str_bool, ii_str_str, ii_str_tuple, ii_str_list, ii_str_dict, ii_tup_int, ii_tup_bool, ii_tup_str, ii_tup_tuple, ii_tup_list, ii_tup_dict, ii_lst_int, ii_lst_bool, ii_lst_str, ii_lst_tuple, ii_lst_list, ii_lst_dict, ii_fz_int, ii_fz_bool, ii_fz_str, ii_fz_tuple, ii_fz_list, ii_fz_dict, all_lst]
      refine k_Ifc (fun c => ?_) fun c => ?_
      · simp only [wps, w_C, w_Var, k_Var, w_Bin, k_Bin1, k_Bin2, w_Tst, k_B, w_Chain, k_Ch1, k_Ch2, k_Ch3t, k_Ch3f, k_Ch4, w_And, w_Or, w_Not, k_Andt, k_Andf, k_Ort, k_Orf, k_Not, w_bAnd, w_bOr, w_bNot, w_bYes, k_bAndt, k_bAndf, k_bOrt, k_bOrf, k_bNot, w_dIf, k_dIft, k_dIff, w_aNil, w_aCons, k_Cons1, k_Cons2, w_Tup, w_Lst, w_Cell, k_Tup, k_Lst, k_Cell, w_Call, k_Call, w_CallF, k_CallF, w_CallN, k_CallN, k_New, k_AddN1, w_Un, k_Un, w_Sl, k_Sl1, k_Sl2, k_Sl3, w_No, w_So, k_So, w_iSeq, k_Items, w_Range1, w_Range2, k_Rng1, k_Rng2, w_iEnum, k_Enum, w_Comp, k_Comp, k_AsL, w_TupRg, w_LstRg, k_TupRg, k_LstRg, w_Rev, k_Rev, rev_tup, rev_lst, k_Di1, k_PT1, k_PT2, w_Nil, w_Nop, w_Fl, w_Seq, k_Seqn, k_Seqr, k_Seqb, k_Seqc, w_Expr, k_Drop, w_Ret, k_Ret, w_Set, k_Set, w_Asg, k_Asg1, k_Nx, w_If, k_Ift, k_Iff, w_For, k_For, k_Put1, k_Put2, w_Fun, w_Fun0, k_Funn, k_Funr, w_newK, w_newT, asB_bl, gN, gTupD, gsCons, gsNil, wipeE, itemsOf, seqItems, len_str, add_ii, sub_ii, neg_i, lt_ii, le_ii, gt_ii, ge_ii, eq_ii, ne_ii, eq_ss, ne_ss, isnot_bb, is_bb, is_non, isnot_non, isNonD, ix_tupD, ix_lstD, ix_fzD, at_lit0, at_lit1, at_lit2, at_lit3, len_fz, len_lst, len_tup, List.map_cons, List.map_nil, List.length_cons, List.length_nil, List.getElem?_cons_zero, List.getElem?_cons_succ, List.set_cons_zero, List.set_cons_succ, List.cons_append, List.nil_append, List.replicate_succ, List.replicate_zero, Nat.reduceSub, Nat.reduceAdd, Nat.reduceLeDiff, if_true, if_false, Bool.false_eq_true, Bool.true_eq_false, Bool.not_true, Bool.not_false, Option.bind_some, Option.map_some, Nat.zero_add, ite_true, ite_false, Int.cast_ofNat_Int, Int.natCast_zero, Int.natCast_one, Int.reduceLT, Int.reduceLE, Int.reduceEq, Int.reduceAdd, Int.reduceSub, Int.reduceNeg, decide_true, decide_false, true_and, and_true, le_size, add_ll, add_tt, tuple_lst, tuple_tup, list_tup, list_lst, sl_tup, sl_lst, ii_non_int, ii_non_bool, ii_non_str, ii_non_tuple, ii_non_list, ii_non_dict, ii_bl_int, ii_bl_bool, ii_bl_str, ii_bl_tuple, ii_bl_list, ii_bl_dict, ii_int_int, ii_int_bool, ii_int_str, ii_int_tuple, ii_int_list, ii_int_dict, ii_str_int, ii_str_bool, ii_str_str, ii_str_tuple, ii_str_list, ii_str_dict, ii_tup_int, ii_tup_bool, ii_tup_str, ii_tup_tuple, ii_tup_list, ii_tup_dict, ii_lst_int, ii_lst_bool, ii_lst_str, ii_lst_tuple, ii_lst_list, ii_lst_dict, ii_fz_int, ii_fz_bool, ii_fz_str, ii_fz_tuple, ii_fz_list, ii_fz_dict]
        refine fin _ (no _ rfl (bad fun z => ?_))
        rw [b04_all.mpr z.ent] at c
        cases c
      have hent : ∀ c ∈ s, 0 ≤ c ∧ c ≤ 4 := b04_all.mp (by simpa using c)
      simp only [wps, w_C, w_Var, k_Var, w_Bin, k_Bin1, k_Bin2, w_Tst, k_B, w_Chain, k_Ch1, k_Ch2, k_Ch3t, k_Ch3f, k_Ch4, w_And, w_Or, w_Not, k_Andt, k_Andf, k_Ort, k_Orf, k_Not, w_bAnd, w_bOr, w_bNot, w_bYes, k_bAndt, k_bAndf, k_bOrt, k_bOrf, k_bNot, w_dIf, k_dIft, k_dIff, w_aNil, w_aCons, k_Cons1, k_Cons2, w_Tup, w_Lst, w_Cell, k_Tup, k_Lst, k_Cell, w_Call, k_Call, w_CallF, k_CallF, w_CallN, k_CallN, k_New, k_AddN1, w_Un, k_Un, w_Sl, k_Sl1, k_Sl2, k_Sl3, w_No, w_So, k_So, w_iSeq, k_Items, w_Range1, w_Range2, k_Rng1, k_Rng2, w_iEnum, k_Enum, w_Comp, k_Comp, k_AsL, w_TupRg, w_LstRg, k_TupRg, k_LstRg, w_Rev, k_Rev, rev_tup, rev_lst, k_Di1, k_PT1, k_PT2, w_Nil, w_Nop, w_Fl, w_Seq, k_Seqn, k_Seqr, k_Seqb, k_Seqc, w_Expr, k_Drop, w_Ret, k_Ret, w_Set, k_Set, w_Asg, k_Asg1, k_Nx, w_If, k_Ift, k_Iff, w_For, k_For, k_Put1, k_Put2, w_Fun, w_Fun0, k_Funn, k_Funr, w_newK, w_newT, asB_bl, gN, gTupD, gsCons, gsNil, wipeE, itemsOf, seqItems, len_str, add_ii, sub_ii, neg_i, lt_ii, le_ii, gt_ii, ge_ii, eq_ii, ne_ii, eq_ss, ne_ss, isnot_bb, is_bb, is_non, isnot_non, isNonD, ix_tupD, ix_lstD, ix_fzD, at_lit0, at_lit1, at_lit2, at_lit3, len_fz, len_lst, len_tup, List.map_cons, List.map_nil, List.length_cons, List.length_nil, List.getElem?_cons_zero, List.getElem?_cons_succ, List.set_cons_zero, List.set_cons_succ, List.cons_append, List.nil_append, List.replicate_succ, List.replicate_zero, Nat.reduceSub, Nat.reduceAdd, Nat.reduceLeDiff, if_true, if_false, Bool.false_eq_true, Bool.true_eq_false, Bool.not_true, Bool.not_false, Option.bind_some, Option.map_some, Nat.zero_add, ite_true, ite_false, Int.cast_ofNat_Int, Int.natCast_zero, Int.natCast_one, Int.reduceLT, Int.reduceLE, Int.reduceEq, Int.reduceAdd, Int.reduceSub, Int.reduceNeg, decide_true, decide_false, true_and, and_true, le_size, add_ll, add_tt, tuple_lst, tuple_tup, list_tup, list_lst, sl_tup, sl_lst, ii_non_int, ii_non_bool, ii_non_str, ii_non_tuple, ii_non_list, ii_non_dict, ii_bl_int, ii_bl_bool, ii_bl_str, ii_bl_tuple, ii_bl_list, ii_bl_dict, ii_int_int, ii_int_bool, ii_int_str, ii_int_tuple, ii_int_list, ii_int_dict, ii_str_int, ii_str_bool, ii_str_str, ii_str_tuple, ii_str_list, ii_str_dict, ii_tup_int, ii_tup_bool, ii_tup_str, ii_tup_tuple, ii_tup_list, ii_tup_dict, ii_lst_int, ii_lst_bool, ii_lst_str, ii_lst_tuple, ii_lst_list, ii_lst_dict, ii_fz_int, ii_fz_bool, ii_fz_str, ii_fz_tuple, ii_fz_list, ii_fz_dict]
      show Wp (f__law_e_groups [.int k, .tup (s.map D.int)] U) _
      refine groups_wp h.k1 (by omega) fun gs hgs hgl => ?_
      simp only [wps, w_C, w_Var, k_Var, w_Bin, k_Bin1, k_Bin2, w_Tst, k_B, w_Chain, k_Ch1, k_Ch2, k_Ch3t, k_Ch3f, k_Ch4, w_And, w_Or, w_Not, k_Andt, k_Andf, k_Ort, k_Orf, k_Not, w_bAnd, w_bOr, w_bNot, w_bYes, k_bAndt, k_bAndf, k_bOrt, k_bOrf, k_bNot, w_dIf, k_dIft, k_dIff, w_aNil, w_aCons, k_Cons1, k_Cons2, w_Tup, w_Lst, w_Cell, k_Tup, k_Lst, k_Cell, w_Call, k_Call, w_CallF, k_CallF, w_CallN, k_CallN, k_New, k_AddN1, w_Un, k_Un, w_Sl, k_Sl1, k_Sl2, k_Sl3, w_No, w_So, k_So, w_iSeq, k_Items, w_Range1, w_Range2, k_Rng1, k_Rng2, w_iEnum, k_Enum, w_Comp, k_Comp, k_AsL, w_TupRg, w_LstRg, k_TupRg, k_LstRg, w_Rev, k_Rev, rev_tup, rev_lst, k_Di1, k_PT1, k_PT2, w_Nil, w_Nop, w_Fl, w_Seq, k_Seqn, k_Seqr, k_Seqb, k_Seqc, w_Expr, k_Drop, w_Ret, k_Ret, w_Set, k_Set, w_Asg, k_Asg1, k_Nx, w_If, k_Ift, k_Iff, w_For, k_For, k_Put1, k_Put2, w_Fun, w_Fun0, k_Funn, k_Funr, w_newK, w_newT, asB_bl, gN, gTupD, gsCons, gsNil, wipeE, itemsOf, seqItems, len_str, add_ii, sub_ii, neg_i, lt_ii, le_ii, gt_ii, ge_ii, eq_ii, ne_ii, eq_ss, ne_ss, isnot_bb, is_bb, is_non, isnot_non, isNonD, ix_tupD, ix_lstD, ix_fzD, at_lit0, at_lit1, at_lit2, at_lit3, len_fz, len_lst, len_tup, List.map_cons, List.map_nil, List.length_cons, List.length_nil, List.getElem?_cons_zero, List.getElem?_cons_succ, List.set_cons_zero, List.set_cons_succ, List.cons_append, List.nil_append, List.replicate_succ, List.replicate_zero, Nat.reduceSub, Nat.reduceAdd, Nat.reduceLeDiff, if_true, if_false, Bool.false_eq_true, Bool.true_eq_false, Bool.not_true, Bool.not_false, Option.bind_some, Option.map_some, Nat.zero_add, ite_true, ite_false, Int.cast_ofNat_Int, Int.natCast_zero, Int.natCast_one, Int.reduceLT, Int.reduceLE, Int.reduceEq, Int.reduceAdd, Int.reduceSub, Int.reduceNeg, decide_true, decide_false, true_and, and_true, le_size, add_ll, add_tt, tuple_lst, tuple_tup, list_tup, list_lst, sl_tup, sl_lst, ii_non_int, ii_non_bool, ii_non_str, ii_non_tuple, ii_non_list, ii_non_dict, ii_bl_int, ii_bl_bool, ii_bl_str, ii_bl_tuple, ii_bl_list, ii_bl_dict, ii_int_int, ii_int_bool, ii_int_str, ii_int_tuple, ii_int_list, ii_int_dict, ii_str_int, ii_str_bool, ii_str_str, ii_str_tuple, ii_str_list, ii_str_dict, ii_tup_int, ii_tup_bool, ii_tup_str, ii_tup_tuple, ii_tup_list, ii_tup_dict, ii_lst_int, ii_lst_bool, ii_lst_str, ii_lst_tuple, ii_lst_list, ii_lst_dict, ii_fz_int, ii_fz_bool, ii_fz_str, ii_fz_tuple, ii_fz_list, ii_fz_dict, none_left hgs, sum_I]
      have rest1 : ((∀ ns, ¬ Grp k s ns) → ¬ 0 < s.sum) → Wp (sFor (iSeq (dVar 6)) (gN 7)
          (sIf (dTst (dBin (oInT true) (dCallF f__law_e_met (aCons (dVar 5) (aCons (dVar 7) aNil))) (dVar 4)))
          (sRet (dC (.bl false))) sNil) [some (.tup [.int k, .tup (cs.map D.int)]), some (.lst (stands.map tupI)), some (.int k), some (.tup (cs.map D.int)), some (.ref S.length), some (tupI s), some (.lst (gs.map tupI)), e7, e8] U) (fun p S' => (p.1 = .nx ∧ GoodS k cs.length kvs s ∧ S' = U ∧ ∃ e7, p.2 = [some (.tup [.int k, .tup (cs.map D.int)]), some (.lst (stands.map tupI)), some (.int k), some (.tup (cs.map D.int)), some (.ref S.length), some (tupI s), some (.lst (gs.map tupI)), e7, e8]) ∨ (p.1 = .rt (.bl false) ∧ S' = U ∧ ¬ GoodS k cs.length kvs s)) := by
        intro hgo
        simp only [wps, w_C, w_Var, k_Var, w_Bin, k_Bin1, k_Bin2, w_Tst, k_B, w_Chain, k_Ch1, k_Ch2, k_Ch3t, k_Ch3f, k_Ch4, w_And, w_Or, w_Not, k_Andt, k_Andf, k_Ort, k_Orf, k_Not, w_bAnd, w_bOr, w_bNot, w_bYes, k_bAndt, k_bAndf, k_bOrt, k_bOrf, k_bNot, w_dIf, k_dIft, k_dIff, w_aNil, w_aCons, k_Cons1, k_Cons2, w_Tup, w_Lst, w_Cell, k_Tup, k_Lst, k_Cell, w_Call, k_Call, w_CallF, k_CallF, w_CallN, k_CallN, k_New, k_AddN1, w_Un, k_Un, w_Sl, k_Sl1, k_Sl2, k_Sl3, w_No, w_So, k_So, w_iSeq, k_Items, w_Range1, w_Range2, k_Rng1, k_Rng2, w_iEnum, k_Enum, w_Comp, k_Comp, k_AsL, w_TupRg, w_LstRg, k_TupRg, k_LstRg, w_Rev, k_Rev, rev_tup, rev_lst, k_Di1, k_PT1, k_PT2, w_Nil, w_Nop, w_Fl, w_Seq, k_Seqn, k_Seqr, k_Seqb, k_Seqc, w_Expr, k_Drop, w_Ret, k_Ret, w_Set, k_Set, w_Asg, k_Asg1, k_Nx, w_If, k_Ift, k_Iff, w_For, k_For, k_Put1, k_Put2, w_Fun, w_Fun0, k_Funn, k_Funr, w_newK, w_newT, asB_bl, gN, gTupD, gsCons, gsNil, wipeE, itemsOf, seqItems, len_str, add_ii, sub_ii, neg_i, lt_ii, le_ii, gt_ii, ge_ii, eq_ii, ne_ii, eq_ss, ne_ss, isnot_bb, is_bb, is_non, isnot_non, isNonD, ix_tupD, ix_lstD, ix_fzD, at_lit0, at_lit1, at_lit2, at_lit3, len_fz, len_lst, len_tup, List.map_cons, List.map_nil, List.length_cons, List.length_nil, List.getElem?_cons_zero, List.getElem?_cons_succ, List.set_cons_zero, List.set_cons_succ, List.cons_append, List.nil_append, List.replicate_succ, List.replicate_zero, Nat.reduceSub, Nat.reduceAdd, Nat.reduceLeDiff, if_true, if_false, Bool.false_eq_true, Bool.true_eq_false, Bool.not_true, Bool.not_false, Option.bind_some, Option.map_some, Nat.zero_add, ite_true, ite_false, Int.cast_ofNat_Int, Int.natCast_zero, Int.natCast_one, Int.reduceLT, Int.reduceLE, Int.reduceEq, Int.reduceAdd, Int.reduceSub, Int.reduceNeg, decide_true, decide_false, true_and, and_true, le_size, add_ll, add_tt, tuple_lst, tuple_tup, list_tup, list_lst, sl_tup, sl_lst, ii_non_int, ii_non_bool, ii_non_str, ii_non_tuple, ii_non_list, ii_non_dict, ii_bl_int, ii_bl_bool, ii_bl_str, ii_bl_tuple, ii_bl_list, ii_bl_dict, ii_int_int, ii_int_bool, ii_int_str, ii_int_tuple, ii_int_list, ii_int_dict, ii_str_int, ii_str_bool, ii_str_str, ii_str_tuple, ii_str_list, ii_str_dict, ii_tup_int, ii_tup_bool, ii_tup_str, ii_tup_tuple, ii_tup_list, ii_tup_dict, ii_lst_int, ii_lst_bool, ii_lst_str, ii_lst_tuple, ii_lst_list, ii_lst_dict, ii_fz_int, ii_fz_bool, ii_fz_str, ii_fz_tuple, ii_fz_list, ii_fz_dict]
        refine forGo_wp (fun rest env V => ∃ (left : List (List Int)) (e7 : Option D), rest = left.map tupI ∧ env = [some (.tup [.int k, .tup (cs.map D.int)]), some (.lst (stands.map tupI)), some (.int k), some (.tup (cs.map D.int)), some (.ref S.length), some (tupI s), some (.lst (gs.map tupI)), e7, e8] ∧ V = U ∧ (∀ g ∈ left, g ∈ gs) ∧ ∀ g ∈ gs, g ∈ left ∨ (valD kvs (behL g 0 s)).isSome = true) _ _ _
          ⟨gs, _, rfl, rfl, rfl, fun _ h => h, fun _ h => .inl h⟩ (fun d rest env V hI => ?_) fun env V hI => ?_
        · obtain ⟨left, e7, e1, e, eV, hsb, hgd⟩ := hI
          cases left with
          | nil => cases e1
          | cons g left =>
            obtain ⟨ed, er⟩ := List.cons.inj e1
            subst e eV ed
            have hG := (hgs g).mp (hsb g List.mem_cons_self)
            refine ⟨_, rfl, ?_⟩
            simp only [wps, w_C, w_Var, k_Var, w_Bin, k_Bin1, k_Bin2, w_Tst, k_B, w_Chain, k_Ch1, k_Ch2, k_Ch3t, k_Ch3f, k_Ch4, w_And, w_Or, w_Not, k_Andt, k_Andf, k_Ort, k_Orf, k_Not, w_bAnd, w_bOr, w_bNot, w_bYes, k_bAndt, k_bAndf, k_bOrt, k_bOrf, k_bNot, w_dIf, k_dIft, k_dIff, w_aNil, w_aCons, k_Cons1, k_Cons2, w_Tup, w_Lst, w_Cell, k_Tup, k_Lst, k_Cell, w_Call, k_Call, w_CallF, k_CallF, w_CallN, k_CallN, k_New, k_AddN1, w_Un, k_Un, w_Sl, k_Sl1, k_Sl2, k_Sl3, w_No, w_So, k_So, w_iSeq, k_Items, w_Range1, w_Range2, k_Rng1, k_Rng2, w_iEnum, k_Enum, w_Comp, k_Comp, k_AsL, w_TupRg, w_LstRg, k_TupRg, k_LstRg, w_Rev, k_Rev, rev_tup, rev_lst, k_Di1, k_PT1, k_PT2, w_Nil, w_Nop, w_Fl, w_Seq, k_Seqn, k_Seqr, k_Seqb, k_Seqc, w_Expr, k_Drop, w_Ret, k_Ret, w_Set, k_Set, w_Asg, k_Asg1, k_Nx, w_If, k_Ift, k_Iff, w_For, k_For, k_Put1, k_Put2, w_Fun, w_Fun0, k_Funn, k_Funr, w_newK, w_newT, asB_bl, gN, gTupD, gsCons, gsNil, wipeE, itemsOf, seqItems, len_str, add_ii, sub_ii, neg_i, lt_ii, le_ii, gt_ii, ge_ii, eq_ii, ne_ii, eq_ss, ne_ss, isnot_bb, is_bb, is_non, isnot_non, isNonD, ix_tupD, ix_lstD, ix_fzD, at_lit0, at_lit1, at_lit2, at_lit3, len_fz, len_lst, len_tup, List.map_cons, List.map_nil, List.length_cons, List.length_nil, List.getElem?_cons_zero, List.getElem?_cons_succ, List.set_cons_zero, List.set_cons_succ, List.cons_append, List.nil_append, List.replicate_succ, List.replicate_zero, Nat.reduceSub, Nat.reduceAdd, Nat.reduceLeDiff, if_true, if_false, Bool.false_eq_true, Bool.true_eq_false, Bool.not_true, Bool.not_false, Option.bind_some, Option.map_some, Nat.zero_add, ite_true, ite_false, Int.cast_ofNat_Int, Int.natCast_zero, Int.natCast_one, Int.reduceLT, Int.reduceLE, Int.reduceEq, Int.reduceAdd, Int.reduceSub, Int.reduceNeg, decide_true, decide_false, true_and, and_true, le_size, add_ll, add_tt, tuple_lst, tuple_tup, list_tup, list_lst, sl_tup, sl_lst, ii_non_int, ii_non_bool, ii_non_str, ii_non_tuple, ii_non_list, ii_non_dict, ii_bl_int, ii_bl_bool, ii_bl_str, ii_bl_tuple, ii_bl_list, ii_bl_dict, ii_int_int, ii_int_bool, ii_int_str, ii_int_tuple, ii_int_list, ii_int_dict, ii_str_int, ii_str_bool, ii_str_str, ii_str_tuple, ii_str_list, ii_str_dict, ii_tup_int, ii_tup_bool, ii_tup_str, ii_tup_tuple, ii_tup_list, ii_tup_dict, ii_lst_int, ii_lst_bool, ii_lst_str, ii_lst_tuple, ii_lst_list, ii_lst_dict, ii_fz_int, ii_fz_bool, ii_fz_str, ii_fz_tuple, ii_fz_list, ii_fz_dict]
            show Wp (f__law_e_met [.tup (s.map D.int), tupI g] V) _
            refine met_wp hsl hG.2.1 (fun e he => ⟨(hG.2.2 e he).1, (hG.2.2 e he).lt⟩) ?_
            simp only [wps, w_C, w_Var, k_Var, w_Bin, k_Bin1, k_Bin2, w_Tst, k_B, w_Chain, k_Ch1, k_Ch2, k_Ch3t, k_Ch3f, k_Ch4, w_And, w_Or, w_Not, k_Andt, k_Andf, k_Ort, k_Orf, k_Not, w_bAnd, w_bOr, w_bNot, w_bYes, k_bAndt, k_bAndf, k_bOrt, k_bOrf, k_bNot, w_dIf, k_dIft, k_dIff, w_aNil, w_aCons, k_Cons1, k_Cons2, w_Tup, w_Lst, w_Cell, k_Tup, k_Lst, k_Cell, w_Call, k_Call, w_CallF, k_CallF, w_CallN, k_CallN, k_New, k_AddN1, w_Un, k_Un, w_Sl, k_Sl1, k_Sl2, k_Sl3, w_No, w_So, k_So, w_iSeq, k_Items, w_Range1, w_Range2, k_Rng1, k_Rng2, w_iEnum, k_Enum, w_Comp, k_Comp, k_AsL, w_TupRg, w_LstRg, k_TupRg, k_LstRg, w_Rev, k_Rev, rev_tup, rev_lst, k_Di1, k_PT1, k_PT2, w_Nil, w_Nop, w_Fl, w_Seq, k_Seqn, k_Seqr, k_Seqb, k_Seqc, w_Expr, k_Drop, w_Ret, k_Ret, w_Set, k_Set, w_Asg, k_Asg1, k_Nx, w_If, k_Ift, k_Iff, w_For, k_For, k_Put1, k_Put2, w_Fun, w_Fun0, k_Funn, k_Funr, w_newK, w_newT, asB_bl, gN, gTupD, gsCons, gsNil, wipeE, itemsOf, seqItems, len_str, add_ii, sub_ii, neg_i, lt_ii, le_ii, gt_ii, ge_ii, eq_ii, ne_ii, eq_ss, ne_ss, isnot_bb, is_bb, is_non, isnot_non, isNonD, ix_tupD, ix_lstD, ix_fzD, at_lit0, at_lit1, at_lit2, at_lit3, len_fz, len_lst, len_tup, List.map_cons, List.map_nil, List.length_cons, List.length_nil, List.getElem?_cons_zero, List.getElem?_cons_succ, List.set_cons_zero, List.set_cons_succ, List.cons_append, List.nil_append, List.replicate_succ, List.replicate_zero, Nat.reduceSub, Nat.reduceAdd, Nat.reduceLeDiff, if_true, if_false, Bool.false_eq_true, Bool.true_eq_false, Bool.not_true, Bool.not_false, Option.bind_some, Option.map_some, Nat.zero_add, ite_true, ite_false, Int.cast_ofNat_Int, Int.natCast_zero, Int.natCast_one, Int.reduceLT, Int.reduceLE, Int.reduceEq, Int.reduceAdd, Int.reduceSub, Int.reduceNeg, decide_true, decide_false, true_and, and_true, le_size, add_ll, add_tt, tuple_lst, tuple_tup, list_tup, list_lst, sl_tup, sl_lst, ii_non_int, ii_non_bool, ii_non_str, ii_non_tuple, ii_non_list, ii_non_dict, ii_bl_int, ii_bl_bool, ii_bl_str, ii_bl_tuple, ii_bl_list, ii_bl_dict, ii_int_int, ii_int_bool, ii_int_str, ii_int_tuple, ii_int_list, ii_int_dict, ii_str_int, ii_str_bool, ii_str_str, ii_str_tuple, ii_str_list, ii_str_dict, ii_tup_int, ii_tup_bool, ii_tup_str, ii_tup_tuple, ii_tup_list, ii_tup_dict, ii_lst_int, ii_lst_bool, ii_lst_str, ii_lst_tuple, ii_lst_list, ii_lst_dict, ii_fz_int, ii_fz_bool, ii_fz_str, ii_fz_tuple, ii_fz_list, ii_fz_dict, inT_I hT, Bool.true_xor]
            refine k_Ifc (fun c => ?_) fun c => ?_
            · simp only [wps, w_C, w_Var, k_Var, w_Bin, k_Bin1, k_Bin2, w_Tst, k_B, w_Chain, k_Ch1, k_Ch2, k_Ch3t, k_Ch3f, k_Ch4, w_And, w_Or, w_Not, k_Andt, k_Andf, k_Ort, k_Orf, k_Not, w_bAnd, w_bOr, w_bNot, w_bYes, k_bAndt, k_bAndf, k_bOrt, k_bOrf, k_bNot, w_dIf, k_dIft, k_dIff, w_aNil, w_aCons, k_Cons1, k_Cons2, w_Tup, w_Lst, w_Cell, k_Tup, k_Lst, k_Cell, w_Call, k_Call, w_CallF, k_CallF, w_CallN, k_CallN, k_New, k_AddN1, w_Un, k_Un, w_Sl, k_Sl1, k_Sl2, k_Sl3, w_No, w_So, k_So, w_iSeq, k_Items, w_Range1, w_Range2, k_Rng1, k_Rng2, w_iEnum, k_Enum, w_Comp, k_Comp, k_AsL, w_TupRg, w_LstRg, k_TupRg, k_LstRg, w_Rev, k_Rev, rev_tup, rev_lst, k_Di1, k_PT1, k_PT2, w_Nil, w_Nop, w_Fl, w_Seq, k_Seqn, k_Seqr, k_Seqb, k_Seqc, w_Expr, k_Drop, w_Ret, k_Ret, w_Set, k_Set, w_Asg, k_Asg1, k_Nx, w_If, k_Ift, k_Iff, w_For, k_For, k_Put1, k_Put2, w_Fun, w_Fun0, k_Funn, k_Funr, w_newK, w_newT, asB_bl, gN, gTupD, gsCons, gsNil, wipeE, itemsOf, seqItems, len_str, add_ii, sub_ii, neg_i, lt_ii, le_ii, gt_ii, ge_ii, eq_ii, ne_ii, eq_ss, ne_ss, isnot_bb, is_bb, is_non, isnot_non, isNonD, ix_tupD, ix_lstD, ix_fzD, at_lit0, at_lit1, at_lit2, at_lit3, len_fz, len_lst, len_tup, List.map_cons, List.map_nil, List.length_cons, List.length_nil, List.getElem?_cons_zero, List.getElem?_cons_succ, List.set_cons_zero, List.set_cons_succ, List.cons_append, List.nil_append, List.replicate_succ, List.replicate_zero, Nat.reduceSub, Nat.reduceAdd, Nat.reduceLeDiff, if_true, if_false, Bool.false_eq_true, Bool.true_eq_false, Bool.not_true, Bool.not_false, Option.bind_some, Option.map_some, Nat.zero_add, ite_true, ite_false, Int.cast_ofNat_Int, Int.natCast_zero, Int.natCast_one, Int.reduceLT, Int.reduceLE, Int.reduceEq, Int.reduceAdd, Int.reduceSub, Int.reduceNeg, decide_true, decide_false, true_and, and_true, le_size, add_ll, add_tt, tuple_lst, tuple_tup, list_tup, list_lst, sl_tup, sl_lst, ii_non_int, ii_non_bool, ii_non_str, ii_non_tuple, ii_non_list, ii_non_dict, ii_bl_int, ii_bl_bool, ii_bl_str, ii_bl_tuple, ii_bl_list, ii_bl_dict, ii_int_int, ii_int_bool, ii_int_str, ii_int_tuple, ii_int_list, ii_int_dict, ii_str_int, ii_str_bool, ii_str_str, ii_str_tuple, ii_str_list, ii_str_dict, ii_tup_int, ii_tup_bool, ii_tup_str, ii_tup_tuple, ii_tup_list, ii_tup_dict, ii_lst_int, ii_lst_bool, ii_lst_str, ii_lst_tuple, ii_lst_list, ii_lst_dict, ii_fz_int, ii_fz_bool, ii_fz_str, ii_fz_tuple, ii_fz_list, ii_fz_dict]
              refine .inr fun z => ?_
              rw [z.all g hG] at c
              cases c
            · simp only [wps, w_C, w_Var, k_Var, w_Bin, k_Bin1, k_Bin2, w_Tst, k_B, w_Chain, k_Ch1, k_Ch2, k_Ch3t, k_Ch3f, k_Ch4, w_And, w_Or, w_Not, k_Andt, k_Andf, k_Ort, k_Orf, k_Not, w_bAnd, w_bOr, w_bNot, w_bYes, k_bAndt, k_bAndf, k_bOrt, k_bOrf, k_bNot, w_dIf, k_dIft, k_dIff, w_aNil, w_aCons, k_Cons1, k_Cons2, w_Tup, w_Lst, w_Cell, k_Tup, k_Lst, k_Cell, w_Call, k_Call, w_CallF, k_CallF, w_CallN, k_CallN, k_New, k_AddN1, w_Un, k_Un, w_Sl, k_Sl1, k_Sl2, k_Sl3, w_No, w_So, k_So, w_iSeq, k_Items, w_Range1, w_Range2, k_Rng1, k_Rng2, w_iEnum, k_Enum, w_Comp, k_Comp, k_AsL, w_TupRg, w_LstRg, k_TupRg, k_LstRg, w_Rev, k_Rev, rev_tup, rev_lst, k_Di1, k_PT1, k_PT2, w_Nil, w_Nop, w_Fl, w_Seq, k_Seqn, k_Seqr, k_Seqb, k_Seqc, w_Expr, k_Drop, w_Ret, k_Ret, w_Set, k_Set, w_Asg, k_Asg1, k_Nx, w_If, k_Ift, k_Iff, w_For, k_For, k_Put1, k_Put2, w_Fun, w_Fun0, k_Funn, k_Funr, w_newK, w_newT, asB_bl, gN, gTupD, gsCons, gsNil, wipeE, itemsOf, seqItems, len_str, add_ii, sub_ii, neg_i, lt_ii, le_ii, gt_ii, ge_ii, eq_ii, ne_ii, eq_ss, ne_ss, isnot_bb, is_bb, is_non, isnot_non, isNonD, ix_tupD, ix_lstD, ix_fzD, at_lit0, at_lit1, at_lit2, at_lit3, len_fz, len_lst, len_tup, List.map_cons, List.map_nil, List.length_cons, List.length_nil, List.getElem?_cons_zero, List.getElem?_cons_succ, List.set_cons_zero, List.set_cons_succ, List.cons_append, List.nil_append, List.replicate_succ, List.replicate_zero, Nat.reduceSub, Nat.reduceAdd, Nat.reduceLeDiff, if_true, if_false, Bool.false_eq_true, Bool.true_eq_false, Bool.not_true, Bool.not_false, Option.bind_some, Option.map_some, Nat.zero_add, ite_true, ite_false, Int.cast_ofNat_Int, Int.natCast_zero, Int.natCast_one, Int.reduceLT, Int.reduceLE, Int.reduceEq, Int.reduceAdd, Int.reduceSub, Int.reduceNeg, decide_true, decide_false, true_and, and_true, le_size, add_ll, add_tt, tuple_lst, tuple_tup, list_tup, list_lst, sl_tup, sl_lst, ii_non_int, ii_non_bool, ii_non_str, ii_non_tuple, ii_non_list, ii_non_dict, ii_bl_int, ii_bl_bool, ii_bl_str, ii_bl_tuple, ii_bl_list, ii_bl_dict, ii_int_int, ii_int_bool, ii_int_str, ii_int_tuple, ii_int_list, ii_int_dict, ii_str_int, ii_str_bool, ii_str_str, ii_str_tuple, ii_str_list, ii_str_dict, ii_tup_int, ii_tup_bool, ii_tup_str, ii_tup_tuple, ii_tup_list, ii_tup_dict, ii_lst_int, ii_lst_bool, ii_lst_str, ii_lst_tuple, ii_lst_list, ii_lst_dict, ii_fz_int, ii_fz_bool, ii_fz_str, ii_fz_tuple, ii_fz_list, ii_fz_dict]
              have hin2 : (valD kvs (behL g 0 s)).isSome = true := by simpa using c
              exact ⟨left, _, er, rfl, fun x hx => hsb x (List.mem_cons_of_mem _ hx), fun x hx => (hgd x hx).elim (fun z => (List.mem_cons.mp z).elim (fun e => .inr (e ▸ hin2)) .inl) .inr⟩
        · obtain ⟨left, e7, e1, e, eV, hsb, hgd⟩ := hI
          cases left with
          | cons g left => cases e1
          | nil =>
            subst e eV
            exact .inl ⟨rfl, ⟨hsn, hent, hgo, fun ns hg => (hgd ns ((hgs ns).mpr hg)).elim (fun z => nomatch z) id⟩, rfl, _, rfl⟩
      have done : ((∀ ns, ¬ Grp k s ns) → ¬ 0 < s.sum) → ∀ (Q : Fl × Ev → Sto → Prop), (∀ e6 e7 e8, GoodS k cs.length kvs s → Q (.nx, [some (.tup [.int k, .tup (cs.map D.int)]), some (.lst (stands.map tupI)), some (.int k), some (.tup (cs.map D.int)), some (.ref S.length), some (tupI s), e6, e7, e8]) U) → (∀ env, ¬ GoodS k cs.length kvs s → Q (.rt (.bl false), env) U) → Wp (sFor (iSeq (dVar 6)) (gN 7)
          (sIf (dTst (dBin (oInT true) (dCallF f__law_e_met (aCons (dVar 5) (aCons (dVar 7) aNil))) (dVar 4)))
          (sRet (dC (.bl false))) sNil) [some (.tup [.int k, .tup (cs.map D.int)]), some (.lst (stands.map tupI)), some (.int k), some (.tup (cs.map D.int)), some (.ref S.length), some (tupI s), some (.lst (gs.map tupI)), e7, e8] U) Q := fun hgo Q q1 q2 => (rest1 hgo).mono fun p S' q => by
        obtain ⟨fl, en⟩ := p
        rcases q with ⟨a, b, c, d⟩ | ⟨a, b, c⟩
        · cases a
          obtain ⟨e7z, dd⟩ := d
          dsimp only at dd
          subst dd c
          exact q1 _ _ _ b
        · cases a
          subst b
          exact q2 _ c
      have nxt : ∀ e6 e7 e8, GoodS k cs.length kvs s → ∃ (left' : List (List Int)) (e5 e6' e7' e8' : Option D), rest = left'.map tupI ∧ [some (D.tup [.int k, .tup (cs.map D.int)]), some (.lst (stands.map tupI)), some (.int k), some (.tup (cs.map D.int)), some (.ref S.length), some (tupI s), e6, e7, e8] = [some (.tup [.int k, .tup (cs.map D.int)]), some (.lst (stands.map tupI)), some (.int k), some (.tup (cs.map D.int)), some (.ref S.length), e5, e6', e7', e8'] ∧ U = U ∧ (∀ s ∈ left', s ∈ stands) ∧ ∀ s ∈ stands, s ∈ left' ∨ GoodS k cs.length kvs s := fun e6 e7 e8 hg =>
        ⟨left, _, _, _, _, er, rfl, rfl, fun x hx => hsub x (List.mem_cons_of_mem _ hx), fun x hx => (hgood x hx).elim (fun z => (List.mem_cons.mp z).elim (fun e => .inr (e ▸ hg)) .inl) .inr⟩
      refine k_bAndc (fun c => ?_) fun c => ?_
      · have hno : ∀ ns, ¬ Grp k s ns := of_decide_eq_true c
        simp only [wps, w_C, w_Var, k_Var, w_Bin, k_Bin1, k_Bin2, w_Tst, k_B, w_Chain, k_Ch1, k_Ch2, k_Ch3t, k_Ch3f, k_Ch4, w_And, w_Or, w_Not, k_Andt, k_Andf, k_Ort, k_Orf, k_Not, w_bAnd, w_bOr, w_bNot, w_bYes, k_bAndt, k_bAndf, k_bOrt, k_bOrf, k_bNot, w_dIf, k_dIft, k_dIff, w_aNil, w_aCons, k_Cons1, k_Cons2, w_Tup, w_Lst, w_Cell, k_Tup, k_Lst, k_Cell, w_Call, k_Call, w_CallF, k_CallF, w_CallN, k_CallN, k_New, k_AddN1, w_Un, k_Un, w_Sl, k_Sl1, k_Sl2, k_Sl3, w_No, w_So, k_So, w_iSeq, k_Items, w_Range1, w_Range2, k_Rng1, k_Rng2, w_iEnum, k_Enum, w_Comp, k_Comp, k_AsL, w_TupRg, w_LstRg, k_TupRg, k_LstRg, w_Rev, k_Rev, rev_tup, rev_lst, k_Di1, k_PT1, k_PT2, w_Nil, w_Nop, w_Fl, w_Seq, k_Seqn, k_Seqr, k_Seqb, k_Seqc, w_Expr, k_Drop, w_Ret, k_Ret, w_Set, k_Set, w_Asg, k_Asg1, k_Nx, w_If, k_Ift, k_Iff, w_For, k_For, k_Put1, k_Put2, w_Fun, w_Fun0, k_Funn, k_Funr, w_newK, w_newT, asB_bl, gN, gTupD, gsCons, gsNil, wipeE, itemsOf, seqItems, len_str, add_ii, sub_ii, neg_i, lt_ii, le_ii, gt_ii, ge_ii, eq_ii, ne_ii, eq_ss, ne_ss, isnot_bb, is_bb, is_non, isnot_non, isNonD, ix_tupD, ix_lstD, ix_fzD, at_lit0, at_lit1, at_lit2, at_lit3, len_fz, len_lst, len_tup, List.map_cons, List.map_nil, List.length_cons, List.length_nil, List.getElem?_cons_zero, List.getElem?_cons_succ, List.set_cons_zero, List.set_cons_succ, List.cons_append, List.nil_append, List.replicate_succ, List.replicate_zero, Nat.reduceSub, Nat.reduceAdd, Nat.reduceLeDiff, if_true, if_false, Bool.false_eq_true, Bool.true_eq_false, Bool.not_true, Bool.not_false, Option.bind_some, Option.map_some, Nat.zero_add, ite_true, ite_false, Int.cast_ofNat_Int, Int.natCast_zero, Int.natCast_one, Int.reduceLT, Int.reduceLE, Int.reduceEq, Int.reduceAdd, Int.reduceSub, Int.reduceNeg, decide_true, decide_false, true_and, and_true, le_size, add_ll, add_tt, tuple_lst, tuple_tup, list_tup, list_lst, sl_tup, sl_lst, ii_non_int, ii_non_bool, ii_non_str, ii_non_tuple, ii_non_list, ii_non_dict, ii_bl_int, ii_bl_bool, ii_bl_str, ii_bl_tuple, ii_bl_list, ii_bl_dict, ii_int_int, ii_int_bool, ii_int_str, ii_int_tuple, ii_int_list, ii_int_dict, ii_str_int, ii_str_bool, ii_str_str, ii_str_tuple, ii_str_list, ii_str_dict, ii_tup_int, ii_tup_bool, ii_tup_str, ii_tup_tuple, ii_tup_list, ii_tup_dict, ii_lst_int, ii_lst_bool, ii_lst_str, ii_lst_tuple, ii_lst_list, ii_lst_dict, ii_fz_int, ii_fz_bool, ii_fz_str, ii_fz_tuple, ii_fz_list, ii_fz_dict, sum_I]
        refine k_Ifd (fun c2 => ?_) fun c2 => ?_
        · simp only [wps, w_C, w_Var, k_Var, w_Bin, k_Bin1, k_Bin2, w_Tst, k_B, w_Chain, k_Ch1, k_Ch2, k_Ch3t, k_Ch3f, k_Ch4, w_And, w_Or, w_Not, k_Andt, k_Andf, k_Ort, k_Orf, k_Not, w_bAnd, w_bOr, w_bNot, w_bYes, k_bAndt, k_bAndf, k_bOrt, k_bOrf, k_bNot, w_dIf, k_dIft, k_dIff, w_aNil, w_aCons, k_Cons1, k_Cons2, w_Tup, w_Lst, w_Cell, k_Tup, k_Lst, k_Cell, w_Call, k_Call, w_CallF, k_CallF, w_CallN, k_CallN, k_New, k_AddN1, w_Un, k_Un, w_Sl, k_Sl1, k_Sl2, k_Sl3, w_No, w_So, k_So, w_iSeq, k_Items, w_Range1, w_Range2, k_Rng1, k_Rng2, w_iEnum, k_Enum, w_Comp, k_Comp, k_AsL, w_TupRg, w_LstRg, k_TupRg, k_LstRg, w_Rev, k_Rev, rev_tup, rev_lst, k_Di1, k_PT1, k_PT2, w_Nil, w_Nop, w_Fl, w_Seq, k_Seqn, k_Seqr, k_Seqb, k_Seqc, w_Expr, k_Drop, w_Ret, k_Ret, w_Set, k_Set, w_Asg, k_Asg1, k_Nx, w_If, k_Ift, k_Iff, w_For, k_For, k_Put1, k_Put2, w_Fun, w_Fun0, k_Funn, k_Funr, w_newK, w_newT, asB_bl, gN, gTupD, gsCons, gsNil, wipeE, itemsOf, seqItems, len_str, add_ii, sub_ii, neg_i, lt_ii, le_ii, gt_ii, ge_ii, eq_ii, ne_ii, eq_ss, ne_ss, isnot_bb, is_bb, is_non, isnot_non, isNonD, ix_tupD, ix_lstD, ix_fzD, at_lit0, at_lit1, at_lit2, at_lit3, len_fz, len_lst, len_tup, List.map_cons, List.map_nil, List.length_cons, List.length_nil, List.getElem?_cons_zero, List.getElem?_cons_succ, List.set_cons_zero, List.set_cons_succ, List.cons_append, List.nil_append, List.replicate_succ, List.replicate_zero, Nat.reduceSub, Nat.reduceAdd, Nat.reduceLeDiff, if_true, if_false, Bool.false_eq_true, Bool.true_eq_false, Bool.not_true, Bool.not_false, Option.bind_some, Option.map_some, Nat.zero_add, ite_true, ite_false, Int.cast_ofNat_Int, Int.natCast_zero, Int.natCast_one, Int.reduceLT, Int.reduceLE, Int.reduceEq, Int.reduceAdd, Int.reduceSub, Int.reduceNeg, decide_true, decide_false, true_and, and_true, le_size, add_ll, add_tt, tuple_lst, tuple_tup, list_tup, list_lst, sl_tup, sl_lst, ii_non_int, ii_non_bool, ii_non_str, ii_non_tuple, ii_non_list, ii_non_dict, ii_bl_int, ii_bl_bool, ii_bl_str, ii_bl_tuple, ii_bl_list, ii_bl_dict, ii_int_int, ii_int_bool, ii_int_str, ii_int_tuple, ii_int_list, ii_int_dict, ii_str_int, ii_str_bool, ii_str_str, ii_str_tuple, ii_str_list, ii_str_dict, ii_tup_int, ii_tup_bool, ii_tup_str, ii_tup_tuple, ii_tup_list, ii_tup_dict, ii_lst_int, ii_lst_bool, ii_lst_str, ii_lst_tuple, ii_lst_list, ii_lst_dict, ii_fz_int, ii_fz_bool, ii_fz_str, ii_fz_tuple, ii_fz_list, ii_fz_dict]
          exact fin _ (no _ rfl (bad fun z => z.go hno c2))
        · simp only [w_Nil, k_Seqn]
          exact done (fun _ => c2) _ nxt fun env hb => fin _ (no _ rfl (bad hb))
      · have hno : ¬ ∀ ns, ¬ Grp k s ns := of_decide_eq_false c
        simp only [k_Iff, w_Nil, k_Seqn]
        exact done (fun z => absurd z hno) _ nxt fun env hb => fin _ (no _ rfl (bad hb))
  · obtain ⟨left, e5, e6, e7, e8, e1, e, eU, hsub, hgood⟩ := hI
    cases left with
    | cons s left => cases e1
    | nil =>
      subst e eU
      simp only [wps, w_C, w_Var, k_Var, w_Bin, k_Bin1, k_Bin2, w_Tst, k_B, w_Chain, k_Ch1, k_Ch2, k_Ch3t, k_Ch3f, k_Ch4, w_And, w_Or, w_Not, k_Andt, k_Andf, k_Ort, k_Orf, k_Not, w_bAnd, w_bOr, w_bNot, w_bYes, k_bAndt, k_bAndf, k_bOrt, k_bOrf, k_bNot, w_dIf, k_dIft, k_dIff, w_aNil, w_aCons, k_Cons1, k_Cons2, w_Tup, w_Lst, w_Cell, k_Tup, k_Lst, k_Cell, w_Call, k_Call, w_CallF, k_CallF, w_CallN, k_CallN, k_New, k_AddN1, w_Un, k_Un, w_Sl, k_Sl1, k_Sl2, k_Sl3, w_No, w_So, k_So, w_iSeq, k_Items, w_Range1, w_Range2, k_Rng1, k_Rng2, w_iEnum, k_Enum, w_Comp, k_Comp, k_AsL, w_TupRg, w_LstRg, k_TupRg, k_LstRg, w_Rev, k_Rev, rev_tup, rev_lst, k_Di1, k_PT1, k_PT2, w_Nil, w_Nop, w_Fl, w_Seq, k_Seqn, k_Seqr, k_Seqb, k_Seqc, w_Expr, k_Drop, w_Ret, k_Ret, w_Set, k_Set, w_Asg, k_Asg1, k_Nx, w_If, k_Ift, k_Iff, w_For, k_For, k_Put1, k_Put2, w_Fun, w_Fun0, k_Funn, k_Funr, w_newK, w_newT, asB_bl, gN, gTupD, gsCons, gsNil, wipeE, itemsOf, seqItems, len_str, add_ii, sub_ii, neg_i, lt_ii, le_ii, gt_ii, ge_ii, eq_ii, ne_ii, eq_ss, ne_ss, isnot_bb, is_bb, is_non, isnot_non, isNonD, ix_tupD, ix_lstD, ix_fzD, at_lit0, at_lit1, at_lit2, at_lit3, len_fz, len_lst, len_tup, List.map_cons, List.map_nil, List.length_cons, List.length_nil, List.getElem?_cons_zero, List.getElem?_cons_succ, List.set_cons_zero, List.set_cons_succ, List.cons_append, List.nil_append, List.replicate_succ, List.replicate_zero, Nat.reduceSub, Nat.reduceAdd, Nat.reduceLeDiff, if_true, if_false, Bool.false_eq_true, Bool.true_eq_false, Bool.not_true, Bool.not_false, Option.bind_some, Option.map_some, Nat.zero_add, ite_true, ite_false, Int.cast_ofNat_Int, Int.natCast_zero, Int.natCast_one, Int.reduceLT, Int.reduceLE, Int.reduceEq, Int.reduceAdd, Int.reduceSub, Int.reduceNeg, decide_true, decide_false, true_and, and_true, le_size, add_ll, add_tt, tuple_lst, tuple_tup, list_tup, list_lst, sl_tup, sl_lst, ii_non_int, ii_non_bool, ii_non_str, ii_non_tuple, ii_non_list, ii_non_dict, ii_bl_int, ii_bl_bool, ii_bl_str, ii_bl_tuple, ii_bl_list, ii_bl_dict, ii_int_int, ii_int_bool, ii_int_str, ii_int_tuple, ii_int_list, ii_int_dict, ii_str_int, ii_str_bool, ii_str_str, ii_str_tuple, ii_str_list, ii_str_dict, ii_tup_int, ii_tup_bool, ii_tup_str, ii_tup_tuple, ii_tup_list, ii_tup_dict, ii_lst_int, ii_lst_bool, ii_lst_str, ii_lst_tuple, ii_lst_list, ii_lst_dict, ii_fz_int, ii_fz_bool, ii_fz_str, ii_fz_tuple, ii_fz_list, ii_fz_dict]
      refine fin _ (Eq.symm (decide_eq_true ⟨by rw [hkv]; exact hlen, by rw [hkv]; exact hin, fun s hs => ?_⟩))
      rw [hkv]
      exact (hgood s hs).elim (fun z => nomatch z) id
end G
end DL
end L2

set_option Elab.async false
set_option linter.all false
set_option maxRecDepth 100000
namespace L2
namespace DL
open PySem PySem.Spec PyProof.Rows
namespace G
/-! ### all counts that meetings come to -/
/-- cells stay -/
def Kx (S S' : Sto) : Prop := ∀ (j : Nat) (c : Cell), S[j]? = some c → S'[j]? = some c
theorem Kx.refl (S : Sto) : Kx S S := fun _ _ h => h
theorem Kx.trans {S S1 S2 : Sto} (h : Kx S S1) (k : Kx S1 S2) : Kx S S2 := fun j c e => k j c (h j c e)
theorem Kx.app (S : Sto) (c : Cell) : Kx S (S ++ [c]) := fun j d e => by
  rw [List.getElem?_append_left (List.getElem?_eq_some_iff.mp e).1]
  exact e
theorem Kx.set {S S' : Sto} (h : Kx S S') {q : Nat} (hq : S.length ≤ q) (c : Cell) : Kx S (S'.set q c) := fun j d e => by
  have := (List.getElem?_eq_some_iff.mp e).1
  rw [List.getElem?_set_ne (by omega)]
  exact h j d e
theorem Kx.dr {ns : List Int} {m : Nat} {S S' : Sto} (hd : DK ns m S) (h : Kx S S') : Dr ns m S S' := by
  obtain ⟨p, q, h1, h2, h3⟩ := hd
  refine ⟨⟨p, q, h1, h2, h m _ h3⟩, fun j c _ e => h j c e, ?_⟩
  rcases Nat.lt_or_ge S'.length S.length with z | z
  · have e := h S'.length _ (List.getElem?_eq_getElem z)
    rw [List.getElem?_eq_none (Nat.le_refl _)] at e
    cases e
  · exact z
def Ent (n : Nat) (s : List Int) : Prop := s.length = n ∧ ∀ c ∈ s, 0 ≤ c ∧ c ≤ 4
structure KvOk (n : Nat) (kvs : List (List Int × D)) : Prop where
  nd : (kvs.map (·.1)).Nodup
  ent : ∀ p ∈ kvs, Ent n p.1
theorem KvOk.small {n : Nat} {kvs : List (List Int × D)} (h : KvOk n kvs) (hn : n ≤ 5) : kvs.length ≤ 3125 := by
  have hb : ∀ s, Ent n s → TS.Bd 5 s := fun s hs m hm => ⟨(hs.2 m hm).1, by have := (hs.2 m hm).2; omega⟩
  have h1 : (kvs.map fun p => (TS.code 5 p.1).toNat).Nodup := by
    have : ((kvs.map (·.1)).map fun s => (TS.code 5 s).toNat).Nodup := by
      refine List.pairwise_map.mpr (h.nd.imp_of_mem fun {a b} ha hb2 hne he => hne ?_)
      obtain ⟨p, hp, ep⟩ := List.mem_map.mp ha
      obtain ⟨p2, hp2, ep2⟩ := List.mem_map.mp hb2
      have ea := h.ent p hp
      have eb := h.ent p2 hp2
      rw [ep] at ea
      rw [ep2] at eb
      have c1 := (TS.code_bd a (hb a ea)).1
      have c2 := (TS.code_bd b (hb b eb)).1
      exact code_inj (ea.1.trans eb.1.symm) (hb a ea) (hb b eb) (by omega)
    rw [List.map_map] at this
    exact this
  have h2 := List.Nodup.length_le_of_subset h1 (l₂ := List.range 3125) fun x hx => by
    obtain ⟨p, hp, e⟩ := List.mem_map.mp hx
    have ea := h.ent p hp
    obtain ⟨c1, c2⟩ := TS.code_bd p.1 (hb p.1 ea)
    rw [ea.1] at c2
    have c3 : (5 : Int) ^ n ≤ 3125 := by
      have : n = 0 ∨ n = 1 ∨ n = 2 ∨ n = 3 ∨ n = 4 ∨ n = 5 := by omega
      rcases this with e | e | e | e | e | e <;> subst e <;> decide
    rw [List.mem_range]
    omega
  rw [List.length_map, List.length_range] at h2
  exact h2
theorem valD_none {kvs : List (List Int × D)} {k : List Int} (h : (valD kvs k).isSome = false) : k ∉ kvs.map (·.1) ∧ ∀ d, putD kvs k d = kvs ++ [(k, d)] := by
  have hn : ∀ p ∈ kvs, ¬ p.1 = k := fun p hp e => by
    unfold valD at h
    rw [Option.isSome_map] at h
    have := List.find?_isSome (p := fun kv : List Int × D => decide (kv.1 = k)) (xs := kvs)
    rw [this.mpr ⟨p, hp, decide_eq_true e⟩] at h
    cases h
  refine ⟨fun hm => ?_, fun d => ?_⟩
  · obtain ⟨p, hp, e⟩ := List.mem_map.mp hm
    exact hn p hp e
  · unfold putD
    rw [if_neg]
    intro q
    obtain ⟨p, hp, e⟩ := List.any_eq_true.mp q
    exact hn p hp (of_decide_eq_true e)
theorem KvOk.add {n : Nat} {kvs : List (List Int × D)} (h : KvOk n kvs) {s : List Int} (hs : Ent n s) (hno : (valD kvs s).isSome = false) (d : D) : KvOk n (putD kvs s d) := by
  obtain ⟨h1, h2⟩ := valD_none hno
  rw [h2]
  refine ⟨?_, fun p hp => ?_⟩
  · rw [List.map_append]
    exact List.nodup_append.mpr ⟨h.nd, by simp, fun a ha b hb => by
      have : b = s := by simpa using hb
      rw [this]
      exact fun e => h1 (e ▸ ha)⟩
  · rcases List.mem_append.mp hp with z | z
    · exact h.ent p z
    · rw [List.mem_singleton.mp z]; exact hs
theorem Ent.beh {n : Nat} {k : Int} {s ns : List Int} (h : Ent n s) (hg : Grp k s ns) : Ent n (behL ns 0 s) := by
  refine ⟨by rw [behL_len]; exact h.1, fun c hc => ?_⟩
  obtain ⟨j, hj⟩ := List.getElem?_of_mem hc
  rw [behL_get, Nat.zero_add] at hj
  obtain ⟨c', h1, h2⟩ := Option.map_eq_some_iff.mp hj
  have hc' := h.2 c' (List.mem_of_getElem? h1)
  by_cases z : (j : Int) ∈ ns
  · rw [if_pos z] at h2
    have hp := (pos_at h1).mp (hg.2.2 _ z)
    omega
  · rw [if_neg z] at h2
    omega
theorem sum_set : ∀ (l : List Int) (i : Nat), i < l.length → (l.set i (l[i]?.getD 0 - 1)).sum = l.sum - 1
  | [], _, h => by cases h
  | x :: l, 0, _ => by
    show ((x - 1) :: l).sum = (x :: l).sum - 1
    rw [List.sum_cons, List.sum_cons]
    omega
  | x :: l, i + 1, h => by
    have ih := sum_set l i (by simpa using h)
    show (x :: l.set i (l[i]?.getD 0 - 1)).sum = (x :: l).sum - 1
    rw [List.sum_cons, List.sum_cons, ih]
    omega
theorem metL_sum : ∀ (ns cs : List Int), (∀ e ∈ ns, 0 ≤ e ∧ e < cs.length) → (metL cs ns).sum = cs.sum - ns.length
  | [], cs, _ => by show cs.sum = cs.sum - ((0 : Nat) : Int); omega
  | e :: ns, cs, h => by
    have he := h e List.mem_cons_self
    show (metL (cs.set e.toNat (cs[e.toNat]?.getD 0 - 1)) ns).sum = _
    rw [metL_sum ns _ fun x hx => by rw [List.length_set]; exact h x (List.mem_cons_of_mem _ hx), sum_set cs e.toNat (by omega), List.length_cons]
    omega
theorem beh_sum {k : Int} {s ns : List Int} (hg : Grp k s ns) : (behL ns 0 s).sum = s.sum - k := by
  rw [← met_beh (hg.2.1.imp fun h => by omega) fun e he => (hg.2.2 e he).1, metL_sum ns s fun e he => ⟨(hg.2.2 e he).1, (hg.2.2 e he).lt⟩, hg.1]
theorem ne_ref {S : Sto} {n : Nat} {ds ys : List D} (h : S[n]? = some (.lst ds)) : oNe S (.ref n) (.lst ys) = oNe S (.lst ds) (.lst ys) := by
  refine (orO_none rfl).trans (Eq.trans ?_ (orO_none rfl).symm)
  unfold oEqD
  have : topD S (.ref n) = topD S (.lst ds) := by
    unfold topD
    rw [lst_ref h]
    rfl
  rw [this]
theorem sum_nn : ∀ {s : List Int}, (∀ c ∈ s, 0 ≤ c ∧ c ≤ 4) → 0 ≤ s.sum ∧ s.sum ≤ 4 * s.length
  | [], _ => ⟨by decide, by decide⟩
  | x :: s, h => by
    have hx := h x List.mem_cons_self
    have ih := sum_nn fun c hc => h c (List.mem_cons_of_mem _ hc)
    rw [List.sum_cons, List.length_cons]
    omega
/-- a level of the search, as a list at hand or as a cell -/
def LvD (S T : Sto) (q : Nat) (lv : List (List Int)) (d : D) : Prop := d = .lst (lv.map tupI) ∨ ∃ n, d = .ref n ∧ T[n]? = some (.lst (lv.map tupI)) ∧ n ≠ q ∧ S.length ≤ n
structure SrI (S : Sto) (k : Int) (cs : List Int) (q : Nat) (kvs : List (List Int × D)) (T : Sto) : Prop where
  kx : Kx S T
  tab : T[q]? = some (.dT (tabI kvs))
  ok : KvOk cs.length kvs
  ne : kvs ≠ []
theorem putD_ne {κ : Type} [DecidableEq κ] (kvs : List (κ × D)) (k : κ) (d : D) : putD kvs k d ≠ [] := by
  intro h
  unfold putD at h
  split at h
  · rename_i q
    rw [List.map_eq_nil_iff.mp h] at q
    cases q
  · exact absurd h (by simp)
open Classical in
theorem search_wp {S : Sto} {k : Int} {cs : List Int} {P : D → Sto → Prop} (hk : 1 ≤ k) (hl : cs.length ≤ 5) (hc : Ent cs.length cs) (kk : ∀ q kvs dep S', SrI S k cs q kvs S' → P (.tup [.ref q, .int dep]) S') : Wp (f__law_e_search [.tup [.int k, .tup (cs.map D.int)]] S) P := by
  unfold f__law_e_search d__law_e_search
  simp only [wps, w_C, w_Var, k_Var, w_Bin, k_Bin1, k_Bin2, w_Tst, k_B, w_Chain, k_Ch1, k_Ch2, k_Ch3t, k_Ch3f, k_Ch4, w_And, w_Or, w_Not, k_Andt, k_Andf, k_Ort, k_Orf, k_Not, w_bAnd, w_bOr, w_bNot, w_bYes, k_bAndt, k_bAndf, k_bOrt, k_bOrf, k_bNot, w_dIf, k_dIft, k_dIff, w_aNil, w_aCons, k_Cons1, k_Cons2, w_Tup, w_Lst, w_Cell, k_Tup, k_Lst, k_Cell, w_Call, k_Call, w_CallF, k_CallF, w_CallN, k_CallN, k_New, k_AddN1, w_Un, k_Un, w_Sl, k_Sl1, k_Sl2, k_Sl3, w_No, w_So, k_So, w_iSeq, k_Items, w_Range1, w_Range2, k_Rng1, k_Rng2, w_iEnum, k_Enum, w_Comp, k_Comp, k_AsL, w_TupRg, w_LstRg, k_TupRg, k_LstRg, w_Rev, k_Rev, rev_tup, rev_lst, k_Di1, k_PT1, k_PT2, w_Nil, w_Nop, w_Fl, w_Seq, k_Seqn, k_Seqr, k_Seqb, k_Seqc, w_Expr, k_Drop, w_Ret, k_Ret, w_Set, k_Set, w_Asg, k_Asg1, k_Nx, w_If, k_Ift, k_Iff, w_For, k_For, k_Put1, k_Put2, w_Fun, w_Fun0, k_Funn, k_Funr, w_newK, w_newT, asB_bl, gN, gTupD, gsCons, gsNil, wipeE, itemsOf, seqItems, len_str, add_ii, sub_ii, neg_i, lt_ii, le_ii, gt_ii, ge_ii, eq_ii, ne_ii, eq_ss, ne_ss, isnot_bb, is_bb, is_non, isnot_non, isNonD, ix_tupD, ix_lstD, ix_fzD, at_lit0, at_lit1, at_lit2, at_lit3, len_fz, len_lst, len_tup, List.map_cons, List.map_nil, List.length_cons, List.length_nil, List.getElem?_cons_zero, List.getElem?_cons_succ, List.set_cons_zero, List.set_cons_succ, List.cons_append, List.nil_append, List.replicate_succ, List.replicate_zero, Nat.reduceSub, Nat.reduceAdd, Nat.reduceLeDiff, if_true, if_false, Bool.false_eq_true, Bool.true_eq_false, Bool.not_true, Bool.not_false, Option.bind_some, Option.map_some, Nat.zero_add, ite_true, ite_false, Int.cast_ofNat_Int, Int.natCast_zero, Int.natCast_one, Int.reduceLT, Int.reduceLE, Int.reduceEq, Int.reduceAdd, Int.reduceSub, Int.reduceNeg, decide_true, decide_false, true_and, and_true, le_size, add_ll, add_tt, tuple_lst, tuple_tup, list_tup, list_lst, sl_tup, sl_lst, ii_non_int, ii_non_bool, ii_non_str, ii_non_tuple, ii_non_list, ii_non_dict, ii_bl_int, ii_bl_bool, ii_bl_str, ii_bl_tuple, ii_bl_list, ii_bl_dict, ii_int_int, ii_int_bool, ii_int_str, ii_int_tuple, ii_int_list, ii_int_dict, ii_str_int, ii_str_bool, ii_str_str, ii_str_tuple, ii_str_list, ii_str_dict, ii_tup_int, ii_tup_bool, ii_tup_str, ii_tup_tuple, ii_tup_list, ii_tup_dict, ii_lst_int, ii_lst_bool, ii_lst_str, ii_lst_tuple, ii_lst_list, ii_lst_dict, ii_fz_int, ii_fz_bool, ii_fz_str, ii_fz_tuple, ii_fz_list, ii_fz_dict]
  refine w_Disp1T ?_
  simp only [wps, w_C, w_Var, k_Var, w_Bin, k_Bin1, k_Bin2, w_Tst, k_B, w_Chain, k_Ch1, k_Ch2, k_Ch3t, k_Ch3f, k_Ch4, w_And, w_Or, w_Not, k_Andt, k_Andf, k_Ort, k_Orf, k_Not, w_bAnd, w_bOr, w_bNot, w_bYes, k_bAndt, k_bAndf, k_bOrt, k_bOrf, k_bNot, w_dIf, k_dIft, k_dIff, w_aNil, w_aCons, k_Cons1, k_Cons2, w_Tup, w_Lst, w_Cell, k_Tup, k_Lst, k_Cell, w_Call, k_Call, w_CallF, k_CallF, w_CallN, k_CallN, k_New, k_AddN1, w_Un, k_Un, w_Sl, k_Sl1, k_Sl2, k_Sl3, w_No, w_So, k_So, w_iSeq, k_Items, w_Range1, w_Range2, k_Rng1, k_Rng2, w_iEnum, k_Enum, w_Comp, k_Comp, k_AsL, w_TupRg, w_LstRg, k_TupRg, k_LstRg, w_Rev, k_Rev, rev_tup, rev_lst, k_Di1, k_PT1, k_PT2, w_Nil, w_Nop, w_Fl, w_Seq, k_Seqn, k_Seqr, k_Seqb, k_Seqc, w_Expr, k_Drop, w_Ret, k_Ret, w_Set, k_Set, w_Asg, k_Asg1, k_Nx, w_If, k_Ift, k_Iff, w_For, k_For, k_Put1, k_Put2, w_Fun, w_Fun0, k_Funn, k_Funr, w_newK, w_newT, asB_bl, gN, gTupD, gsCons, gsNil, wipeE, itemsOf, seqItems, len_str, add_ii, sub_ii, neg_i, lt_ii, le_ii, gt_ii, ge_ii, eq_ii, ne_ii, eq_ss, ne_ss, isnot_bb, is_bb, is_non, isnot_non, isNonD, ix_tupD, ix_lstD, ix_fzD, at_lit0, at_lit1, at_lit2, at_lit3, len_fz, len_lst, len_tup, List.map_cons, List.map_nil, List.length_cons, List.length_nil, List.getElem?_cons_zero, List.getElem?_cons_succ, List.set_cons_zero, List.set_cons_succ, List.cons_append, List.nil_append, List.replicate_succ, List.replicate_zero, Nat.reduceSub, Nat.reduceAdd, Nat.reduceLeDiff, if_true, if_false, Bool.false_eq_true, Bool.true_eq_false, Bool.not_true, Bool.not_false, Option.bind_some, Option.map_some, Nat.zero_add, ite_true, ite_false, Int.cast_ofNat_Int, Int.natCast_zero, Int.natCast_one, Int.reduceLT, Int.reduceLE, Int.reduceEq, Int.reduceAdd, Int.reduceSub, Int.reduceNeg, decide_true, decide_false, true_and, and_true, le_size, add_ll, add_tt, tuple_lst, tuple_tup, list_tup, list_lst, sl_tup, sl_lst, ii_non_int, ii_non_bool, ii_non_str, ii_non_tuple, ii_non_list, ii_non_dict, ii_bl_int, ii_bl_bool, ii_bl_str, ii_bl_tuple, ii_bl_list, ii_bl_dict, ii_int_int, ii_int_bool, ii_int_str, ii_int_tuple, ii_int_list, ii_int_dict, ii_str_int, ii_str_bool, ii_str_str, ii_str_tuple, ii_str_list, ii_str_dict, ii_tup_int, ii_tup_bool, ii_tup_str, ii_tup_tuple, ii_tup_list, ii_tup_dict, ii_lst_int, ii_lst_bool, ii_lst_str, ii_lst_tuple, ii_lst_list, ii_lst_dict, ii_fz_int, ii_fz_bool, ii_fz_str, ii_fz_tuple, ii_fz_list, ii_fz_dict]
  refine ⟨kI cs, ⟨_, rfl, keyDL_ints cs⟩, app_at _ _, ?_⟩
  obtain ⟨T0, hT0⟩ : ∃ T0, T0 = (S ++ [Cell.dT []]).set S.length (.dT [(kI cs, .int 0)]) := ⟨_, rfl⟩
  have s0 : SrI S k cs S.length [(cs, .int 0)] T0 := by
    rw [hT0]
    exact ⟨(Kx.app S _).set (Nat.le_refl _) _, set_get (app_at _ _), ⟨by simp, fun p hp => by rw [List.mem_singleton.mp hp]; exact hc⟩, by simp⟩
  rw [← hT0]
  simp only [wps, w_C, w_Var, k_Var, w_Bin, k_Bin1, k_Bin2, w_Tst, k_B, w_Chain, k_Ch1, k_Ch2, k_Ch3t, k_Ch3f, k_Ch4, w_And, w_Or, w_Not, k_Andt, k_Andf, k_Ort, k_Orf, k_Not, w_bAnd, w_bOr, w_bNot, w_bYes, k_bAndt, k_bAndf, k_bOrt, k_bOrf, k_bNot, w_dIf, k_dIft, k_dIff, w_aNil, w_aCons, k_Cons1, k_Cons2, w_Tup, w_Lst, w_Cell, k_Tup, k_Lst, k_Cell, w_Call, k_Call, w_CallF, k_CallF, w_CallN, k_CallN, k_New, k_AddN1, w_Un, k_Un, w_Sl, k_Sl1, k_Sl2, k_Sl3, w_No, w_So, k_So, w_iSeq, k_Items, w_Range1, w_Range2, k_Rng1, k_Rng2, w_iEnum, k_Enum, w_Comp, k_Comp, k_AsL, w_TupRg, w_LstRg, k_TupRg, k_LstRg, w_Rev, k_Rev, rev_tup, rev_lst, k_Di1, k_PT1, k_PT2, w_Nil, w_Nop, w_Fl, w_Seq, k_Seqn, k_Seqr, k_Seqb, k_Seqc, w_Expr, k_Drop, w_Ret, k_Ret, w_Set, k_Set, w_Asg, k_Asg1, k_Nx, w_If, k_Ift, k_Iff, w_For, k_For, k_Put1, k_Put2, w_Fun, w_Fun0, k_Funn, k_Funr, w_newK, w_newT, asB_bl, gN, gTupD, gsCons, gsNil, wipeE, itemsOf, seqItems, len_str, add_ii, sub_ii, neg_i, lt_ii, le_ii, gt_ii, ge_ii, eq_ii, ne_ii, eq_ss, ne_ss, isnot_bb, is_bb, is_non, isnot_non, isNonD, ix_tupD, ix_lstD, ix_fzD, at_lit0, at_lit1, at_lit2, at_lit3, len_fz, len_lst, len_tup, List.map_cons, List.map_nil, List.length_cons, List.length_nil, List.getElem?_cons_zero, List.getElem?_cons_succ, List.set_cons_zero, List.set_cons_succ, List.cons_append, List.nil_append, List.replicate_succ, List.replicate_zero, Nat.reduceSub, Nat.reduceAdd, Nat.reduceLeDiff, if_true, if_false, Bool.false_eq_true, Bool.true_eq_false, Bool.not_true, Bool.not_false, Option.bind_some, Option.map_some, Nat.zero_add, ite_true, ite_false, Int.cast_ofNat_Int, Int.natCast_zero, Int.natCast_one, Int.reduceLT, Int.reduceLE, Int.reduceEq, Int.reduceAdd, Int.reduceSub, Int.reduceNeg, decide_true, decide_false, true_and, and_true, le_size, add_ll, add_tt, tuple_lst, tuple_tup, list_tup, list_lst, sl_tup, sl_lst, ii_non_int, ii_non_bool, ii_non_str, ii_non_tuple, ii_non_list, ii_non_dict, ii_bl_int, ii_bl_bool, ii_bl_str, ii_bl_tuple, ii_bl_list, ii_bl_dict, ii_int_int, ii_int_bool, ii_int_str, ii_int_tuple, ii_int_list, ii_int_dict, ii_str_int, ii_str_bool, ii_str_str, ii_str_tuple, ii_str_list, ii_str_dict, ii_tup_int, ii_tup_bool, ii_tup_str, ii_tup_tuple, ii_tup_list, ii_tup_dict, ii_lst_int, ii_lst_bool, ii_lst_str, ii_lst_tuple, ii_lst_list, ii_lst_dict, ii_fz_int, ii_fz_bool, ii_fz_str, ii_fz_tuple, ii_fz_list, ii_fz_dict]
  unfold sWhile
  refine whGo_wp (fun m env T => ∃ (kvs : List (List Int × D)) (lv : List (List Int)) (lvD : D) (dep : Int) (e6 e7 e8 e9 e10 : Option D), m = 25 - dep.toNat ∧ 0 ≤ dep ∧ dep ≤ 24 ∧ env = [some (.tup [.int k, .tup (cs.map D.int)]), some (.int k), some (.tup (cs.map D.int)), some (.ref S.length), some lvD, some (.int dep), e6, e7, e8, e9, e10] ∧ LvD S T S.length lv lvD ∧ SrI S k cs S.length kvs T ∧ ∀ s ∈ lv, Ent cs.length s ∧ s.sum = cs.sum - k * dep) _ 25 _ _ (by unfold turns; decide)
    ⟨[(cs, .int 0)], [cs], _, 0, none, none, none, none, none, rfl, by decide, by decide, rfl, .inl rfl, s0, fun s hs => by rw [List.mem_singleton.mp hs]; exact ⟨hc, by omega⟩⟩ fun m env T hI => ?_
  obtain ⟨kvs, lv, lvD, dep, e6, e7, e8, e9, e10, em, d0, d24, e, hlv, hsr, hent⟩ := hI
  subst e
  have hne : oNe T lvD (.lst []) = some (.bl (!decide (D.lst (lv.map tupI) = .lst []))) := by
    have h0 : oNe T (.lst (lv.map tupI)) (.lst []) = some (.bl (!decide (D.lst (lv.map tupI) = .lst []))) := ne_pl rfl (plL_tupI 62 lv) rfl
    rcases hlv with e | ⟨n, e, hn, _, _⟩
    · subst e; exact h0
    · subst e; exact (ne_ref hn).trans h0
  simp only [wps, w_C, w_Var, k_Var, w_Bin, k_Bin1, k_Bin2, w_Tst, k_B, w_Chain, k_Ch1, k_Ch2, k_Ch3t, k_Ch3f, k_Ch4, w_And, w_Or, w_Not, k_Andt, k_Andf, k_Ort, k_Orf, k_Not, w_bAnd, w_bOr, w_bNot, w_bYes, k_bAndt, k_bAndf, k_bOrt, k_bOrf, k_bNot, w_dIf, k_dIft, k_dIff, w_aNil, w_aCons, k_Cons1, k_Cons2, w_Tup, w_Lst, w_Cell, k_Tup, k_Lst, k_Cell, w_Call, k_Call, w_CallF, k_CallF, w_CallN, k_CallN, k_New, k_AddN1, w_Un, k_Un, w_Sl, k_Sl1, k_Sl2, k_Sl3, w_No, w_So, k_So, w_iSeq, k_Items, w_Range1, w_Range2, k_Rng1, k_Rng2, w_iEnum, k_Enum, w_Comp, k_Comp, k_AsL, w_TupRg, w_LstRg, k_TupRg, k_LstRg, w_Rev, k_Rev, rev_tup, rev_lst, k_Di1, k_PT1, k_PT2, w_Nil, w_Nop, w_Fl, w_Seq, k_Seqn, k_Seqr, k_Seqb, k_Seqc, w_Expr, k_Drop, w_Ret, k_Ret, w_Set, k_Set, w_Asg, k_Asg1, k_Nx, w_If, k_Ift, k_Iff, w_For, k_For, k_Put1, k_Put2, w_Fun, w_Fun0, k_Funn, k_Funr, w_newK, w_newT, asB_bl, gN, gTupD, gsCons, gsNil, wipeE, itemsOf, seqItems, len_str, add_ii, sub_ii, neg_i, lt_ii, le_ii, gt_ii, ge_ii, eq_ii, ne_ii, eq_ss, ne_ss, isnot_bb, is_bb, is_non, isnot_non, isNonD, ix_tupD, ix_lstD, ix_fzD, at_lit0, at_lit1, at_lit2, at_lit3, len_fz, len_lst, len_tup, List.map_cons, List.map_nil, List.length_cons, List.length_nil, List.getElem?_cons_zero, List.getElem?_cons_succ, List.set_cons_zero, List.set_cons_succ, List.cons_append, List.nil_append, List.replicate_succ, List.replicate_zero, Nat.reduceSub, Nat.reduceAdd, Nat.reduceLeDiff, if_true, if_false, Bool.false_eq_true, Bool.true_eq_false, Bool.not_true, Bool.not_false, Option.bind_some, Option.map_some, Nat.zero_add, ite_true, ite_false, Int.cast_ofNat_Int, Int.natCast_zero, Int.natCast_one, Int.reduceLT, Int.reduceLE, Int.reduceEq, Int.reduceAdd, Int.reduceSub, Int.reduceNeg, decide_true, decide_false, true_and, and_true, le_size, add_ll, add_tt, tuple_lst, tuple_tup, list_tup, list_lst, sl_tup, sl_lst, ii_non_int, ii_non_bool, ii_non_str, ii_non_tuple, ii_non_list, ii_non_dict, ii_bl_int, ii_bl_bool, ii_bl_str, ii_bl_tuple, ii_bl_list, ii_bl_dict, ii_int_int, ii_int_bool, ii_int_str, ii_int_tuple, ii_int_list, ii_int_dict, ii_str_int, ii_str_bool, ii_str_str, ii_str_tuple, ii_str_list, ii_str_dict, ii_tup_int, ii_tup_bool, ii_tup_str, ii_tup_tuple, ii_tup_list, ii_tup_dict, ii_lst_int, ii_lst_bool, ii_lst_str, ii_lst_tuple, ii_lst_list, ii_lst_dict, ii_fz_int, ii_fz_bool, ii_fz_str, ii_fz_tuple, ii_fz_list, ii_fz_dict, hne]
  cases lv with
  | nil =>
    simp only [wps, w_C, w_Var, k_Var, w_Bin, k_Bin1, k_Bin2, w_Tst, k_B, w_Chain, k_Ch1, k_Ch2, k_Ch3t, k_Ch3f, k_Ch4, w_And, w_Or, w_Not, k_Andt, k_Andf, k_Ort, k_Orf, k_Not, w_bAnd, w_bOr, w_bNot, w_bYes, k_bAndt, k_bAndf, k_bOrt, k_bOrf, k_bNot, w_dIf, k_dIft, k_dIff, w_aNil, w_aCons, k_Cons1, k_Cons2, w_Tup, w_Lst, w_Cell, k_Tup, k_Lst, k_Cell, w_Call, k_Call, w_CallF, k_CallF, w_CallN, k_CallN, k_New, k_AddN1, w_Un, k_Un, w_Sl, k_Sl1, k_Sl2, k_Sl3, w_No, w_So, k_So, w_iSeq, k_Items, w_Range1, w_Range2, k_Rng1, k_Rng2, w_iEnum, k_Enum, w_Comp, k_Comp, k_AsL, w_TupRg, w_LstRg, k_TupRg, k_LstRg, w_Rev, k_Rev, rev_tup, rev_lst, k_Di1, k_PT1, k_PT2, w_Nil, w_Nop, w_Fl, w_Seq, k_Seqn, k_Seqr, k_Seqb, k_Seqc, w_Expr, k_Drop, w_Ret, k_Ret, w_Set, k_Set, w_Asg, k_Asg1, k_Nx, w_If, k_Ift, k_Iff, w_For, k_For, k_Put1, k_Put2, w_Fun, w_Fun0, k_Funn, k_Funr, w_newK, w_newT, asB_bl, gN, gTupD, gsCons, gsNil, wipeE, itemsOf, seqItems, len_str, add_ii, sub_ii, neg_i, lt_ii, le_ii, gt_ii, ge_ii, eq_ii, ne_ii, eq_ss, ne_ss, isnot_bb, is_bb, is_non, isnot_non, isNonD, ix_tupD, ix_lstD, ix_fzD, at_lit0, at_lit1, at_lit2, at_lit3, len_fz, len_lst, len_tup, List.map_cons, List.map_nil, List.length_cons, List.length_nil, List.getElem?_cons_zero, List.getElem?_cons_succ, List.set_cons_zero, List.set_cons_succ, List.cons_append, List.nil_append, List.replicate_succ, List.replicate_zero, Nat.reduceSub, Nat.reduceAdd, Nat.reduceLeDiff, if_true, if_false, Bool.false_eq_true, Bool.true_eq_false, Bool.not_true, Bool.not_false, Option.bind_some, Option.map_some, Nat.zero_add, ite_true, ite_false, Int.cast_ofNat_Int, Int.natCast_zero, Int.natCast_one, Int.reduceLT, Int.reduceLE, Int.reduceEq, Int.reduceAdd, Int.reduceSub, Int.reduceNeg, decide_true, decide_false, true_and, and_true, le_size, add_ll, add_tt, tuple_lst, tuple_tup, list_tup, list_lst, sl_tup, sl_lst, ii_non_int, ii_non_bool, ii_non_str, ii_non_tuple, ii_non_list, ii_non_dict, ii_bl_int, ii_bl_bool, ii_bl_str, ii_bl_tuple, ii_bl_list, ii_bl_dict, ii_int_int, ii_int_bool, ii_int_str, ii_int_tuple, ii_int_list, ii_int_dict, ii_str_int, ii_str_bool, ii_str_str, ii_str_tuple, ii_str_list, ii_str_dict, ii_tup_int, ii_tup_bool, ii_tup_str, ii_tup_tuple, ii_tup_list, ii_tup_dict, ii_lst_int, ii_lst_bool, ii_lst_str, ii_lst_tuple, ii_lst_list, ii_lst_dict, ii_fz_int, ii_fz_bool, ii_fz_str, ii_fz_tuple, ii_fz_list, ii_fz_dict, List.map_nil]
    exact kk S.length kvs (-1) T hsr
  | cons s0' lv =>
    have hs0 := hent s0' List.mem_cons_self
    have hd20 : dep ≤ 20 := by
      have h1 := sum_nn hs0.1.2
      have h2 := sum_nn hc.2
      have h3 := hs0.2
      have h4 : dep ≤ k * dep := by
        have := Int.mul_le_mul_of_nonneg_right hk d0
        omega
      omega
    have hf : decide (D.lst ((s0' :: lv).map tupI) = .lst []) = false := decide_eq_false fun z => by cases z
    simp only [hf, Bool.not_false, if_true]
    generalize s0' :: lv = lv' at hent hlv ⊢
    have hq1 : S.length < T.length := (List.getElem?_eq_some_iff.mp hsr.tab).1
    have keepT : ∀ {j : Nat} {c d : Cell}, T[j]? = some c → (T ++ [d])[j]? = some c := fun {j c d} e => by
      rw [List.getElem?_append_left (List.getElem?_eq_some_iff.mp e).1]
      exact e
    have sr1 : SrI S k cs S.length kvs (T ++ [.lst []]) := ⟨hsr.kx.trans (Kx.app _ _), keepT hsr.tab, hsr.ok, hsr.ne⟩
    obtain ⟨nn, hnn⟩ : ∃ nn : Nat, lvD = .lst (lv'.map tupI) ∨ lvD = .ref nn := by
      rcases hlv with e | ⟨n, e, _⟩
      · exact ⟨0, .inl e⟩
      · exact ⟨n, .inr e⟩
    have hnT : lvD = .ref nn → T[nn]? = some (.lst (lv'.map tupI)) ∧ nn ≠ S.length ∧ S.length ≤ nn := fun e => by
      rcases hlv with e2 | ⟨n, e2, h1, h2, h3⟩
      · rw [e] at e2; cases e2
      · rw [e] at e2
        cases e2
        exact ⟨h1, h2, h3⟩
    refine w_ForA ?_
    simp only [w_Var, k_Var, List.getElem?_cons_zero, List.getElem?_cons_succ]
    refine forA_wp (n := nn) (ds0 := lv'.map tupI) (fun rest env U => ∃ (kvs : List (List Int × D)) (fresh left : List (List Int)) (e7 e8 e9 e10 : Option D), rest = left.map tupI ∧ env = [some (.tup [.int k, .tup (cs.map D.int)]), some (.int k), some (.tup (cs.map D.int)), some (.ref S.length), some lvD, some (.int dep), some (.ref T.length), e7, e8, e9, e10] ∧
      SrI S k cs S.length kvs U ∧ U[T.length]? = some (.lst (fresh.map tupI)) ∧ (lvD = .ref nn → U[nn]? = some (.lst (lv'.map tupI))) ∧ (∀ s ∈ left, s ∈ lv') ∧ (∀ s ∈ fresh, Ent cs.length s ∧ s.sum = cs.sum - k * (dep + 1)) ∧ fresh.length ≤ kvs.length) hnn
      ⟨kvs, [], lv', _, _, _, _, rfl, rfl, sr1, app_at _ _, fun e => keepT (hnT e).1, fun _ h => h, (fun s hs => nomatch hs), Nat.zero_le _⟩ (fun e => keepT (hnT e).1) (fun e ds env U h => ?_) (fun d rest env U hI => ?_) fun env U hI => ?_
    · obtain ⟨_, _, _, _, _, _, _, _, _, _, _, h, _⟩ := h
      exact h e
    · obtain ⟨kvs, fresh, left, e7, e8, e9, e10, e1, e, hs, hfr, hlvk, hsub, hfe, hfl⟩ := hI
      cases left with
      | nil => cases e1
      | cons s left =>
        obtain ⟨ed, er⟩ := List.cons.inj e1
        subst e ed
        obtain ⟨hse, hss⟩ := hent s (hsub s List.mem_cons_self)
        have hsl := hse.1
        refine ⟨_, rfl, ?_⟩
        simp only [wps, w_C, w_Var, k_Var, w_Bin, k_Bin1, k_Bin2, w_Tst, k_B, w_Chain, k_Ch1, k_Ch2, k_Ch3t, k_Ch3f, k_Ch4, w_And, w_Or, w_Not, k_Andt, k_Andf, k_Ort, k_Orf, k_Not, w_bAnd, w_bOr, w_bNot, w_bYes, k_bAndt, k_bAndf, k_bOrt, k_bOrf, k_bNot, w_dIf, k_dIft, k_dIff, w_aNil, w_aCons, k_Cons1, k_Cons2, w_Tup, w_Lst, w_Cell, k_Tup, k_Lst, k_Cell, w_Call, k_Call, w_CallF, k_CallF, w_CallN, k_CallN, k_New, k_AddN1, w_Un, k_Un, w_Sl, k_Sl1, k_Sl2, k_Sl3, w_No, w_So, k_So, w_iSeq, k_Items, w_Range1, w_Range2, k_Rng1, k_Rng2, w_iEnum, k_Enum, w_Comp, k_Comp, k_AsL, w_TupRg, w_LstRg, k_TupRg, k_LstRg, w_Rev, k_Rev, rev_tup, rev_lst, k_Di1, k_PT1, k_PT2, w_Nil, w_Nop, w_Fl, w_Seq, k_Seqn, k_Seqr, k_Seqb, k_Seqc, w_Expr, k_Drop, w_Ret, k_Ret, w_Set, k_Set, w_Asg, k_Asg1, k_Nx, w_If, k_Ift, k_Iff, w_For, k_For, k_Put1, k_Put2, w_Fun, w_Fun0, k_Funn, k_Funr, w_newK, w_newT, asB_bl, gN, gTupD, gsCons, gsNil, wipeE, itemsOf, seqItems, len_str, add_ii, sub_ii, neg_i, lt_ii, le_ii, gt_ii, ge_ii, eq_ii, ne_ii, eq_ss, ne_ss, isnot_bb, is_bb, is_non, isnot_non, isNonD, ix_tupD, ix_lstD, ix_fzD, at_lit0, at_lit1, at_lit2, at_lit3, len_fz, len_lst, len_tup, List.map_cons, List.map_nil, List.length_cons, List.length_nil, List.getElem?_cons_zero, List.getElem?_cons_succ, List.set_cons_zero, List.set_cons_succ, List.cons_append, List.nil_append, List.replicate_succ, List.replicate_zero, Nat.reduceSub, Nat.reduceAdd, Nat.reduceLeDiff, if_true, if_false, Bool.false_eq_true, Bool.true_eq_false, Bool.not_true, Bool.not_false, Option.bind_some, Option.map_some, Nat.zero_add, ite_true, ite_false, Int.cast_ofNat_Int, Int.natCast_zero, Int.natCast_one, Int.reduceLT, Int.reduceLE, Int.reduceEq, Int.reduceAdd, Int.reduceSub, Int.reduceNeg, decide_true, decide_false, true_and, and_true, le_size, add_ll, add_tt, tuple_lst, tuple_tup, list_tup, list_lst, sl_tup, sl_lst, ii_non_int, ii_non_bool, ii_non_str, ii_non_tuple, ii_non_list, ii_non_dict, ii_bl_int, ii_bl_bool, ii_bl_str, ii_bl_tuple, ii_bl_list, ii_bl_dict, ii_int_int, ii_int_bool, ii_int_str, ii_int_tuple, ii_int_list, ii_int_dict, ii_str_int, ii_str_bool, ii_str_str, ii_str_tuple, ii_str_list, ii_str_dict, ii_tup_int, ii_tup_bool, ii_tup_str, ii_tup_tuple, ii_tup_list, ii_tup_dict, ii_lst_int, ii_lst_bool, ii_lst_str, ii_lst_tuple, ii_lst_list, ii_lst_dict, ii_fz_int, ii_fz_bool, ii_fz_str, ii_fz_tuple, ii_fz_list, ii_fz_dict]
        show Wp (f__law_e_groups [.int k, .tup (s.map D.int)] U) _
        refine groups_wp hk (by omega) fun gs hgs hgl => ?_
        simp only [wps, w_C, w_Var, k_Var, w_Bin, k_Bin1, k_Bin2, w_Tst, k_B, w_Chain, k_Ch1, k_Ch2, k_Ch3t, k_Ch3f, k_Ch4, w_And, w_Or, w_Not, k_Andt, k_Andf, k_Ort, k_Orf, k_Not, w_bAnd, w_bOr, w_bNot, w_bYes, k_bAndt, k_bAndf, k_bOrt, k_bOrf, k_bNot, w_dIf, k_dIft, k_dIff, w_aNil, w_aCons, k_Cons1, k_Cons2, w_Tup, w_Lst, w_Cell, k_Tup, k_Lst, k_Cell, w_Call, k_Call, w_CallF, k_CallF, w_CallN, k_CallN, k_New, k_AddN1, w_Un, k_Un, w_Sl, k_Sl1, k_Sl2, k_Sl3, w_No, w_So, k_So, w_iSeq, k_Items, w_Range1, w_Range2, k_Rng1, k_Rng2, w_iEnum, k_Enum, w_Comp, k_Comp, k_AsL, w_TupRg, w_LstRg, k_TupRg, k_LstRg, w_Rev, k_Rev, rev_tup, rev_lst, k_Di1, k_PT1, k_PT2, w_Nil, w_Nop, w_Fl, w_Seq, k_Seqn, k_Seqr, k_Seqb, k_Seqc, w_Expr, k_Drop, w_Ret, k_Ret, w_Set, k_Set, w_Asg, k_Asg1, k_Nx, w_If, k_Ift, k_Iff, w_For, k_For, k_Put1, k_Put2, w_Fun, w_Fun0, k_Funn, k_Funr, w_newK, w_newT, asB_bl, gN, gTupD, gsCons, gsNil, wipeE, itemsOf, seqItems, len_str, add_ii, sub_ii, neg_i, lt_ii, le_ii, gt_ii, ge_ii, eq_ii, ne_ii, eq_ss, ne_ss, isnot_bb, is_bb, is_non, isnot_non, isNonD, ix_tupD, ix_lstD, ix_fzD, at_lit0, at_lit1, at_lit2, at_lit3, len_fz, len_lst, len_tup, List.map_cons, List.map_nil, List.length_cons, List.length_nil, List.getElem?_cons_zero, List.getElem?_cons_succ, List.set_cons_zero, List.set_cons_succ, List.cons_append, List.nil_append, List.replicate_succ, List.replicate_zero, Nat.reduceSub, Nat.reduceAdd, Nat.reduceLeDiff, if_true, if_false, Bool.false_eq_true, Bool.true_eq_false, Bool.not_true, Bool.not_false, Option.bind_some, Option.map_some, Nat.zero_add, ite_true, ite_false, Int.cast_ofNat_Int, Int.natCast_zero, Int.natCast_one, Int.reduceLT, Int.reduceLE, Int.reduceEq, Int.reduceAdd, Int.reduceSub, Int.reduceNeg, decide_true, decide_false, true_and, and_true, le_size, add_ll, add_tt, tuple_lst, tuple_tup, list_tup, list_lst, sl_tup, sl_lst, ii_non_int, ii_non_bool, ii_non_str, ii_non_tuple, ii_non_list, ii_non_dict, ii_bl_int, ii_bl_bool, ii_bl_str, ii_bl_tuple, ii_bl_list, ii_bl_dict, ii_int_int, ii_int_bool, ii_int_str, ii_int_tuple, ii_int_list, ii_int_dict, ii_str_int, ii_str_bool, ii_str_str, ii_str_tuple, ii_str_list, ii_str_dict, ii_tup_int, ii_tup_bool, ii_tup_str, ii_tup_tuple, ii_tup_list, ii_tup_dict, ii_lst_int, ii_lst_bool, ii_lst_str, ii_lst_tuple, ii_lst_list, ii_lst_dict, ii_fz_int, ii_fz_bool, ii_fz_str, ii_fz_tuple, ii_fz_list, ii_fz_dict, none_left hgs]
        have inner : ∀ (Q : Fl × Ev → Sto → Prop), (∀ (kvs : List (List Int × D)) (fresh : List (List Int)) (e9 e10 : Option D) (V : Sto), SrI S k cs S.length kvs V → V[T.length]? = some (.lst (fresh.map tupI)) → (lvD = .ref nn → V[nn]? = some (.lst (lv'.map tupI))) → (∀ s ∈ fresh, Ent cs.length s ∧ s.sum = cs.sum - k * (dep + 1)) → fresh.length ≤ kvs.length → Q (.nx, [some (.tup [.int k, .tup (cs.map D.int)]), some (.int k), some (.tup (cs.map D.int)), some (.ref S.length), some lvD, some (.int dep), some (.ref T.length), some (tupI s), some (.lst (gs.map tupI)), e9, e10]) V) →
            Wp (sFor (iSeq (dVar 8)) (gN 9)
              (sSeq (sSet 10 (dCallF f__law_e_met (aCons (dVar 7) (aCons (dVar 9) aNil))))
              (sIf (dTst (dBin (oInT true) (dVar 10) (dVar 3)))
                (sSeq (sPutT (dVar 3) (dVar 10) (dBin oAdd (dVar 5) (dC (D.int 1))))
                  (sExpr (dAppend (dVar 6) (dVar 10))))
                sNil)) [some (.tup [.int k, .tup (cs.map D.int)]), some (.int k), some (.tup (cs.map D.int)), some (.ref S.length), some lvD, some (.int dep), some (.ref T.length), some (tupI s), some (.lst (gs.map tupI)), e9, e10] U) Q := by
          intro Q hQ
          simp only [wps, w_C, w_Var, k_Var, w_Bin, k_Bin1, k_Bin2, w_Tst, k_B, w_Chain, k_Ch1, k_Ch2, k_Ch3t, k_Ch3f, k_Ch4, w_And, w_Or, w_Not, k_Andt, k_Andf, k_Ort, k_Orf, k_Not, w_bAnd, w_bOr, w_bNot, w_bYes, k_bAndt, k_bAndf, k_bOrt, k_bOrf, k_bNot, w_dIf, k_dIft, k_dIff, w_aNil, w_aCons, k_Cons1, k_Cons2, w_Tup, w_Lst, w_Cell, k_Tup, k_Lst, k_Cell, w_Call, k_Call, w_CallF, k_CallF, w_CallN, k_CallN, k_New, k_AddN1, w_Un, k_Un, w_Sl, k_Sl1, k_Sl2, k_Sl3, w_No, w_So, k_So, w_iSeq, k_Items, w_Range1, w_Range2, k_Rng1, k_Rng2, w_iEnum, k_Enum, w_Comp, k_Comp, k_AsL, w_TupRg, w_LstRg, k_TupRg, k_LstRg, w_Rev, k_Rev, rev_tup, rev_lst, k_Di1, k_PT1, k_PT2, w_Nil, w_Nop, w_Fl, w_Seq, k_Seqn, k_Seqr, k_Seqb, k_Seqc, w_Expr, k_Drop, w_Ret, k_Ret, w_Set, k_Set, w_Asg, k_Asg1, k_Nx, w_If, k_Ift, k_Iff, w_For, k_For, k_Put1, k_Put2, w_Fun, w_Fun0, k_Funn, k_Funr, w_newK, w_newT, asB_bl, gN, gTupD, gsCons, gsNil, wipeE, itemsOf, seqItems, len_str, add_ii, sub_ii, neg_i, lt_ii, le_ii, gt_ii, ge_ii, eq_ii, ne_ii, eq_ss, ne_ss, isnot_bb, is_bb, is_non, isnot_non, isNonD, ix_tupD, ix_lstD, ix_fzD, at_lit0, at_lit1, at_lit2, at_lit3, len_fz, len_lst, len_tup, List.map_cons, List.map_nil, List.length_cons, List.length_nil, List.getElem?_cons_zero, List.getElem?_cons_succ, List.set_cons_zero, List.set_cons_succ, List.cons_append, List.nil_append, List.replicate_succ, List.replicate_zero, Nat.reduceSub, Nat.reduceAdd, Nat.reduceLeDiff, if_true, if_false, Bool.false_eq_true, Bool.true_eq_false, Bool.not_true, Bool.not_false, Option.bind_some, Option.map_some, Nat.zero_add, ite_true, ite_false, Int.cast_ofNat_Int, Int.natCast_zero, Int.natCast_one, Int.reduceLT, Int.reduceLE, Int.reduceEq, Int.reduceAdd, Int.reduceSub, Int.reduceNeg, decide_true, decide_false, true_and, and_true, le_size, add_ll, add_tt, tuple_lst, tuple_tup, list_tup, list_lst, sl_tup, sl_lst, ii_non_int, ii_non_bool, ii_non_str, ii_non_tuple, ii_non_list, ii_non_dict, ii_bl_int, ii_bl_bool, ii_bl_str, ii_bl_tuple, ii_bl_list, ii_bl_dict, ii_int_int, ii_int_bool, ii_int_str, ii_int_tuple, ii_int_list, ii_int_dict, ii_str_int, ii_str_bool, ii_str_str, ii_str_tuple, ii_str_list, ii_str_dict, ii_tup_int, ii_tup_bool, ii_tup_str, ii_tup_tuple, ii_tup_list, ii_tup_dict, ii_lst_int, ii_lst_bool, ii_lst_str, ii_lst_tuple, ii_lst_list, ii_lst_dict, ii_fz_int, ii_fz_bool, ii_fz_str, ii_fz_tuple, ii_fz_list, ii_fz_dict]
          refine forGo_wp (fun rest env V => ∃ (kvs : List (List Int × D)) (fresh left : List (List Int)) (e9 e10 : Option D), rest = left.map tupI ∧ env = [some (.tup [.int k, .tup (cs.map D.int)]), some (.int k), some (.tup (cs.map D.int)), some (.ref S.length), some lvD, some (.int dep), some (.ref T.length), some (tupI s), some (.lst (gs.map tupI)), e9, e10] ∧
            SrI S k cs S.length kvs V ∧ V[T.length]? = some (.lst (fresh.map tupI)) ∧ (lvD = .ref nn → V[nn]? = some (.lst (lv'.map tupI))) ∧ (∀ g ∈ left, g ∈ gs) ∧ (∀ s ∈ fresh, Ent cs.length s ∧ s.sum = cs.sum - k * (dep + 1)) ∧ fresh.length ≤ kvs.length) _ _ _
            ⟨kvs, fresh, gs, _, _, rfl, rfl, hs, hfr, hlvk, fun _ h => h, hfe, hfl⟩ (fun d rest env V hI => ?_) fun env V hI => ?_
          · obtain ⟨kvs, fresh, left, e9, e10, e1, e, hs, hfr, hlvk, hsub, hfe, hfl⟩ := hI
            cases left with
            | nil => cases e1
            | cons g left =>
              obtain ⟨ed, er⟩ := List.cons.inj e1
              subst e ed
              have hG := (hgs g).mp (hsub g List.mem_cons_self)
              refine ⟨_, rfl, ?_⟩
              simp only [wps, w_C, w_Var, k_Var, w_Bin, k_Bin1, k_Bin2, w_Tst, k_B, w_Chain, k_Ch1, k_Ch2, k_Ch3t, k_Ch3f, k_Ch4, w_And, w_Or, w_Not, k_Andt, k_Andf, k_Ort, k_Orf, k_Not, w_bAnd, w_bOr, w_bNot, w_bYes, k_bAndt, k_bAndf, k_bOrt, k_bOrf, k_bNot, w_dIf, k_dIft, k_dIff, w_aNil, w_aCons, k_Cons1, k_Cons2, w_Tup, w_Lst, w_Cell, k_Tup, k_Lst, k_Cell, w_Call, k_Call, w_CallF, k_CallF, w_CallN, k_CallN, k_New, k_AddN1, w_Un, k_Un, w_Sl, k_Sl1, k_Sl2, k_Sl3, w_No, w_So, k_So, w_iSeq, k_Items, w_Range1, w_Range2, k_Rng1, k_Rng2, w_iEnum, k_Enum, w_Comp, k_Comp, k_AsL, w_TupRg, w_LstRg, k_TupRg, k_LstRg, w_Rev, k_Rev, rev_tup, rev_lst, k_Di1, k_PT1, k_PT2, w_Nil, w_Nop, w_Fl, w_Seq, k_Seqn, k_Seqr, k_Seqb, k_Seqc, w_Expr, k_Drop, w_Ret, k_Ret, w_Set, k_Set, w_Asg, k_Asg1, k_Nx, w_If, k_Ift, k_Iff, w_For, k_For, k_Put1, k_Put2, w_Fun, w_Fun0, k_Funn, k_Funr, w_newK, w_newT, asB_bl, gN, gTupD, gsCons, gsNil, wipeE, itemsOf, seqItems, len_str, add_ii, sub_ii, neg_i, lt_ii, le_ii, gt_ii, ge_ii, eq_ii, ne_ii, eq_ss, ne_ss, isnot_bb, is_bb, is_non, isnot_non, isNonD, ix_tupD, ix_lstD, ix_fzD, at_lit0, at_lit1, at_lit2, at_lit3, len_fz, len_lst, len_tup, List.map_cons, List.map_nil, List.length_cons, List.length_nil, List.getElem?_cons_zero, List.getElem?_cons_succ, List.set_cons_zero, List.set_cons_succ, List.cons_append, List.nil_append, List.replicate_succ, List.replicate_zero, Nat.reduceSub, Nat.reduceAdd, Nat.reduceLeDiff, if_true, if_false, Bool.false_eq_true, Bool.true_eq_false, Bool.not_true, Bool.not_false, Option.bind_some, Option.map_some, Nat.zero_add, ite_true, ite_false, Int.cast_ofNat_Int, Int.natCast_zero, Int.natCast_one, Int.reduceLT, Int.reduceLE, Int.reduceEq, Int.reduceAdd, Int.reduceSub, Int.reduceNeg, decide_true, decide_false, true_and, and_true, le_size, add_ll, add_tt, tuple_lst, tuple_tup, list_tup, list_lst, sl_tup, sl_lst, ii_non_int, ii_non_bool, ii_non_str, ii_non_tuple, ii_non_list, ii_non_dict, ii_bl_int, ii_bl_bool, ii_bl_str, ii_bl_tuple, ii_bl_list, ii_bl_dict, ii_int_int, ii_int_bool, ii_int_str, ii_int_tuple, ii_int_list, ii_int_dict, ii_str_int, ii_str_bool, ii_str_str, ii_str_tuple, ii_str_list, ii_str_dict, ii_tup_int, ii_tup_bool, ii_tup_str, ii_tup_tuple, ii_tup_list, ii_tup_dict, ii_lst_int, ii_lst_bool, ii_lst_str, ii_lst_tuple, ii_lst_list, ii_lst_dict, ii_fz_int, ii_fz_bool, ii_fz_str, ii_fz_tuple, ii_fz_list, ii_fz_dict]
              show Wp (f__law_e_met [.tup (s.map D.int), tupI g] V) _
              refine met_wp (by omega) hG.2.1 (fun e he => ⟨(hG.2.2 e he).1, (hG.2.2 e he).lt⟩) ?_
              simp only [wps, w_C, w_Var, k_Var, w_Bin, k_Bin1, k_Bin2, w_Tst, k_B, w_Chain, k_Ch1, k_Ch2, k_Ch3t, k_Ch3f, k_Ch4, w_And, w_Or, w_Not, k_Andt, k_Andf, k_Ort, k_Orf, k_Not, w_bAnd, w_bOr, w_bNot, w_bYes, k_bAndt, k_bAndf, k_bOrt, k_bOrf, k_bNot, w_dIf, k_dIft, k_dIff, w_aNil, w_aCons, k_Cons1, k_Cons2, w_Tup, w_Lst, w_Cell, k_Tup, k_Lst, k_Cell, w_Call, k_Call, w_CallF, k_CallF, w_CallN, k_CallN, k_New, k_AddN1, w_Un, k_Un, w_Sl, k_Sl1, k_Sl2, k_Sl3, w_No, w_So, k_So, w_iSeq, k_Items, w_Range1, w_Range2, k_Rng1, k_Rng2, w_iEnum, k_Enum, w_Comp, k_Comp, k_AsL, w_TupRg, w_LstRg, k_TupRg, k_LstRg, w_Rev, k_Rev, rev_tup, rev_lst, k_Di1, k_PT1, k_PT2, w_Nil, w_Nop, w_Fl, w_Seq, k_Seqn, k_Seqr, k_Seqb, k_Seqc, w_Expr, k_Drop, w_Ret, k_Ret, w_Set, k_Set, w_Asg, k_Asg1, k_Nx, w_If, k_Ift, k_Iff, w_For, k_For, k_Put1, k_Put2, w_Fun, w_Fun0, k_Funn, k_Funr, w_newK, w_newT, asB_bl, gN, gTupD, gsCons, gsNil, wipeE, itemsOf, seqItems, len_str, add_ii, sub_ii, neg_i, lt_ii, le_ii, gt_ii, ge_ii, eq_ii, ne_ii, eq_ss, ne_ss, isnot_bb, is_bb, is_non, isnot_non, isNonD, ix_tupD, ix_lstD, ix_fzD, at_lit0, at_lit1, at_lit2, at_lit3, len_fz, len_lst, len_tup, List.map_cons, List.map_nil, List.length_cons, List.length_nil, List.getElem?_cons_zero, List.getElem?_cons_succ, List.set_cons_zero, List.set_cons_succ, List.cons_append, List.nil_append, List.replicate_succ, List.replicate_zero, Nat.reduceSub, Nat.reduceAdd, Nat.reduceLeDiff, if_true, if_false, Bool.false_eq_true, Bool.true_eq_false, Bool.not_true, Bool.not_false, Option.bind_some, Option.map_some, Nat.zero_add, ite_true, ite_false, Int.cast_ofNat_Int, Int.natCast_zero, Int.natCast_one, Int.reduceLT, Int.reduceLE, Int.reduceEq, Int.reduceAdd, Int.reduceSub, Int.reduceNeg, decide_true, decide_false, true_and, and_true, le_size, add_ll, add_tt, tuple_lst, tuple_tup, list_tup, list_lst, sl_tup, sl_lst, ii_non_int, ii_non_bool, ii_non_str, ii_non_tuple, ii_non_list, ii_non_dict, ii_bl_int, ii_bl_bool, ii_bl_str, ii_bl_tuple, ii_bl_list, ii_bl_dict, ii_int_int, ii_int_bool, ii_int_str, ii_int_tuple, ii_int_list, ii_int_dict, ii_str_int, ii_str_bool, ii_str_str, ii_str_tuple, ii_str_list, ii_str_dict, ii_tup_int, ii_tup_bool, ii_tup_str, ii_tup_tuple, ii_tup_list, ii_tup_dict, ii_lst_int, ii_lst_bool, ii_lst_str, ii_lst_tuple, ii_lst_list, ii_lst_dict, ii_fz_int, ii_fz_bool, ii_fz_str, ii_fz_tuple, ii_fz_list, ii_fz_dict, inT_I hs.tab, Bool.true_xor]
              refine k_Ifc (fun c => ?_) fun c => ?_
              · have hno : (valD kvs (behL g 0 s)).isSome = false := by simpa using c
                have hsm := hs.ok.small hl
                have hE := hse.beh hG
                have hqV : S.length < V.length := (List.getElem?_eq_some_iff.mp hs.tab).1
                simp only [wps, w_C, w_Var, k_Var, w_Bin, k_Bin1, k_Bin2, w_Tst, k_B, w_Chain, k_Ch1, k_Ch2, k_Ch3t, k_Ch3f, k_Ch4, w_And, w_Or, w_Not, k_Andt, k_Andf, k_Ort, k_Orf, k_Not, w_bAnd, w_bOr, w_bNot, w_bYes, k_bAndt, k_bAndf, k_bOrt, k_bOrf, k_bNot, w_dIf, k_dIft, k_dIff, w_aNil, w_aCons, k_Cons1, k_Cons2, w_Tup, w_Lst, w_Cell, k_Tup, k_Lst, k_Cell, w_Call, k_Call, w_CallF, k_CallF, w_CallN, k_CallN, k_New, k_AddN1, w_Un, k_Un, w_Sl, k_Sl1, k_Sl2, k_Sl3, w_No, w_So, k_So, w_iSeq, k_Items, w_Range1, w_Range2, k_Rng1, k_Rng2, w_iEnum, k_Enum, w_Comp, k_Comp, k_AsL, w_TupRg, w_LstRg, k_TupRg, k_LstRg, w_Rev, k_Rev, rev_tup, rev_lst, k_Di1, k_PT1, k_PT2, w_Nil, w_Nop, w_Fl, w_Seq, k_Seqn, k_Seqr, k_Seqb, k_Seqc, w_Expr, k_Drop, w_Ret, k_Ret, w_Set, k_Set, w_Asg, k_Asg1, k_Nx, w_If, k_Ift, k_Iff, w_For, k_For, k_Put1, k_Put2, w_Fun, w_Fun0, k_Funn, k_Funr, w_newK, w_newT, asB_bl, gN, gTupD, gsCons, gsNil, wipeE, itemsOf, seqItems, len_str, add_ii, sub_ii, neg_i, lt_ii, le_ii, gt_ii, ge_ii, eq_ii, ne_ii, eq_ss, ne_ss, isnot_bb, is_bb, is_non, isnot_non, isNonD, ix_tupD, ix_lstD, ix_fzD, at_lit0, at_lit1, at_lit2, at_lit3, len_fz, len_lst, len_tup, List.map_cons, List.map_nil, List.length_cons, List.length_nil, List.getElem?_cons_zero, List.getElem?_cons_succ, List.set_cons_zero, List.set_cons_succ, List.cons_append, List.nil_append, List.replicate_succ, List.replicate_zero, Nat.reduceSub, Nat.reduceAdd, Nat.reduceLeDiff, if_true, if_false, Bool.false_eq_true, Bool.true_eq_false, Bool.not_true, Bool.not_false, Option.bind_some, Option.map_some, Nat.zero_add, ite_true, ite_false, Int.cast_ofNat_Int, Int.natCast_zero, Int.natCast_one, Int.reduceLT, Int.reduceLE, Int.reduceEq, Int.reduceAdd, Int.reduceSub, Int.reduceNeg, decide_true, decide_false, true_and, and_true, le_size, add_ll, add_tt, tuple_lst, tuple_tup, list_tup, list_lst, sl_tup, sl_lst, ii_non_int, ii_non_bool, ii_non_str, ii_non_tuple, ii_non_list, ii_non_dict, ii_bl_int, ii_bl_bool, ii_bl_str, ii_bl_tuple, ii_bl_list, ii_bl_dict, ii_int_int, ii_int_bool, ii_int_str, ii_int_tuple, ii_int_list, ii_int_dict, ii_str_int, ii_str_bool, ii_str_str, ii_str_tuple, ii_str_list, ii_str_dict, ii_tup_int, ii_tup_bool, ii_tup_str, ii_tup_tuple, ii_tup_list, ii_tup_dict, ii_lst_int, ii_lst_bool, ii_lst_str, ii_lst_tuple, ii_lst_list, ii_lst_dict, ii_fz_int, ii_fz_bool, ii_fz_str, ii_fz_tuple, ii_fz_list, ii_fz_dict]
                refine w_PutT ?_
                simp only [wps, w_C, w_Var, k_Var, w_Bin, k_Bin1, k_Bin2, w_Tst, k_B, w_Chain, k_Ch1, k_Ch2, k_Ch3t, k_Ch3f, k_Ch4, w_And, w_Or, w_Not, k_Andt, k_Andf, k_Ort, k_Orf, k_Not, w_bAnd, w_bOr, w_bNot, w_bYes, k_bAndt, k_bAndf, k_bOrt, k_bOrf, k_bNot, w_dIf, k_dIft, k_dIff, w_aNil, w_aCons, k_Cons1, k_Cons2, w_Tup, w_Lst, w_Cell, k_Tup, k_Lst, k_Cell, w_Call, k_Call, w_CallF, k_CallF, w_CallN, k_CallN, k_New, k_AddN1, w_Un, k_Un, w_Sl, k_Sl1, k_Sl2, k_Sl3, w_No, w_So, k_So, w_iSeq, k_Items, w_Range1, w_Range2, k_Rng1, k_Rng2, w_iEnum, k_Enum, w_Comp, k_Comp, k_AsL, w_TupRg, w_LstRg, k_TupRg, k_LstRg, w_Rev, k_Rev, rev_tup, rev_lst, k_Di1, k_PT1, k_PT2, w_Nil, w_Nop, w_Fl, w_Seq, k_Seqn, k_Seqr, k_Seqb, k_Seqc, w_Expr, k_Drop, w_Ret, k_Ret, w_Set, k_Set, w_Asg, k_Asg1, k_Nx, w_If, k_Ift, k_Iff, w_For, k_For, k_Put1, k_Put2, w_Fun, w_Fun0, k_Funn, k_Funr, w_newK, w_newT, asB_bl, gN, gTupD, gsCons, gsNil, wipeE, itemsOf, seqItems, len_str, add_ii, sub_ii, neg_i, lt_ii, le_ii, gt_ii, ge_ii, eq_ii, ne_ii, eq_ss, ne_ss, isnot_bb, is_bb, is_non, isnot_non, isNonD, ix_tupD, ix_lstD, ix_fzD, at_lit0, at_lit1, at_lit2, at_lit3, len_fz, len_lst, len_tup, List.map_cons, List.map_nil, List.length_cons, List.length_nil, List.getElem?_cons_zero, List.getElem?_cons_succ, List.set_cons_zero, List.set_cons_succ, List.cons_append, List.nil_append, List.replicate_succ, List.replicate_zero, Nat.reduceSub, Nat.reduceAdd, Nat.reduceLeDiff, if_true, if_false, Bool.false_eq_true, Bool.true_eq_false, Bool.not_true, Bool.not_false, Option.bind_some, Option.map_some, Nat.zero_add, ite_true, ite_false, Int.cast_ofNat_Int, Int.natCast_zero, Int.natCast_one, Int.reduceLT, Int.reduceLE, Int.reduceEq, Int.reduceAdd, Int.reduceSub, Int.reduceNeg, decide_true, decide_false, true_and, and_true, le_size, add_ll, add_tt, tuple_lst, tuple_tup, list_tup, list_lst, sl_tup, sl_lst, ii_non_int, ii_non_bool, ii_non_str, ii_non_tuple, ii_non_list, ii_non_dict, ii_bl_int, ii_bl_bool, ii_bl_str, ii_bl_tuple, ii_bl_list, ii_bl_dict, ii_int_int, ii_int_bool, ii_int_str, ii_int_tuple, ii_int_list, ii_int_dict, ii_str_int, ii_str_bool, ii_str_str, ii_str_tuple, ii_str_list, ii_str_dict, ii_tup_int, ii_tup_bool, ii_tup_str, ii_tup_tuple, ii_tup_list, ii_tup_dict, ii_lst_int, ii_lst_bool, ii_lst_str, ii_lst_tuple, ii_lst_list, ii_lst_dict, ii_fz_int, ii_fz_bool, ii_fz_str, ii_fz_tuple, ii_fz_list, ii_fz_dict]
                refine ⟨_, putT_I hs.tab (behL g 0 s) (.int (dep + 1)) (by rw [sizeLine_eq]; omega), ?_⟩
                simp only [wps, w_C, w_Var, k_Var, w_Bin, k_Bin1, k_Bin2, w_Tst, k_B, w_Chain, k_Ch1, k_Ch2, k_Ch3t, k_Ch3f, k_Ch4, w_And, w_Or, w_Not, k_Andt, k_Andf, k_Ort, k_Orf, k_Not, w_bAnd, w_bOr, w_bNot, w_bYes, k_bAndt, k_bAndf, k_bOrt, k_bOrf, k_bNot, w_dIf, k_dIft, k_dIff, w_aNil, w_aCons, k_Cons1, k_Cons2, w_Tup, w_Lst, w_Cell, k_Tup, k_Lst, k_Cell, w_Call, k_Call, w_CallF, k_CallF, w_CallN, k_CallN, k_New, k_AddN1, w_Un, k_Un, w_Sl, k_Sl1, k_Sl2, k_Sl3, w_No, w_So, k_So, w_iSeq, k_Items, w_Range1, w_Range2, k_Rng1, k_Rng2, w_iEnum, k_Enum, w_Comp, k_Comp, k_AsL, w_TupRg, w_LstRg, k_TupRg, k_LstRg, w_Rev, k_Rev, rev_tup, rev_lst, k_Di1, k_PT1, k_PT2, w_Nil, w_Nop, w_Fl, w_Seq, k_Seqn, k_Seqr, k_Seqb, k_Seqc, w_Expr, k_Drop, w_Ret, k_Ret, w_Set, k_Set, w_Asg, k_Asg1, k_Nx, w_If, k_Ift, k_Iff, w_For, k_For, k_Put1, k_Put2, w_Fun, w_Fun0, k_Funn, k_Funr, w_newK, w_newT, asB_bl, gN, gTupD, gsCons, gsNil, wipeE, itemsOf, seqItems, len_str, add_ii, sub_ii, neg_i, lt_ii, le_ii, gt_ii, ge_ii, eq_ii, ne_ii, eq_ss, ne_ss, isnot_bb, is_bb, is_non, isnot_non, isNonD, ix_tupD, ix_lstD, ix_fzD, at_lit0, at_lit1, at_lit2, at_lit3, len_fz, len_lst, len_tup, List.map_cons, List.map_nil, List.length_cons, List.length_nil, List.getElem?_cons_zero, List.getElem?_cons_succ, List.set_cons_zero, List.set_cons_succ, List.cons_append, List.nil_append, List.replicate_succ, List.replicate_zero, Nat.reduceSub, Nat.reduceAdd, Nat.reduceLeDiff, if_true, if_false, Bool.false_eq_true, Bool.true_eq_false, Bool.not_true, Bool.not_false, Option.bind_some, Option.map_some, Nat.zero_add, ite_true, ite_false, Int.cast_ofNat_Int, Int.natCast_zero, Int.natCast_one, Int.reduceLT, Int.reduceLE, Int.reduceEq, Int.reduceAdd, Int.reduceSub, Int.reduceNeg, decide_true, decide_false, true_and, and_true, le_size, add_ll, add_tt, tuple_lst, tuple_tup, list_tup, list_lst, sl_tup, sl_lst, ii_non_int, ii_non_bool, ii_non_str, ii_non_tuple, ii_non_list, ii_non_dict, ii_bl_int, ii_bl_bool, ii_bl_str, ii_bl_tuple, ii_bl_list, ii_bl_dict, ii_int_int, ii_int_bool, ii_int_str, ii_int_tuple, ii_int_list, ii_int_dict, ii_str_int, ii_str_bool, ii_str_str, ii_str_tuple, ii_str_list, ii_str_dict, ii_tup_int, ii_tup_bool, ii_tup_str, ii_tup_tuple, ii_tup_list, ii_tup_dict, ii_lst_int, ii_lst_bool, ii_lst_str, ii_lst_tuple, ii_lst_list, ii_lst_dict, ii_fz_int, ii_fz_bool, ii_fz_str, ii_fz_tuple, ii_fz_list, ii_fz_dict]
                refine w_App ?_
                simp only [wps, w_C, w_Var, k_Var, w_Bin, k_Bin1, k_Bin2, w_Tst, k_B, w_Chain, k_Ch1, k_Ch2, k_Ch3t, k_Ch3f, k_Ch4, w_And, w_Or, w_Not, k_Andt, k_Andf, k_Ort, k_Orf, k_Not, w_bAnd, w_bOr, w_bNot, w_bYes, k_bAndt, k_bAndf, k_bOrt, k_bOrf, k_bNot, w_dIf, k_dIft, k_dIff, w_aNil, w_aCons, k_Cons1, k_Cons2, w_Tup, w_Lst, w_Cell, k_Tup, k_Lst, k_Cell, w_Call, k_Call, w_CallF, k_CallF, w_CallN, k_CallN, k_New, k_AddN1, w_Un, k_Un, w_Sl, k_Sl1, k_Sl2, k_Sl3, w_No, w_So, k_So, w_iSeq, k_Items, w_Range1, w_Range2, k_Rng1, k_Rng2, w_iEnum, k_Enum, w_Comp, k_Comp, k_AsL, w_TupRg, w_LstRg, k_TupRg, k_LstRg, w_Rev, k_Rev, rev_tup, rev_lst, k_Di1, k_PT1, k_PT2, w_Nil, w_Nop, w_Fl, w_Seq, k_Seqn, k_Seqr, k_Seqb, k_Seqc, w_Expr, k_Drop, w_Ret, k_Ret, w_Set, k_Set, w_Asg, k_Asg1, k_Nx, w_If, k_Ift, k_Iff, w_For, k_For, k_Put1, k_Put2, w_Fun, w_Fun0, k_Funn, k_Funr, w_newK, w_newT, asB_bl, gN, gTupD, gsCons, gsNil, wipeE, itemsOf, seqItems, len_str, add_ii, sub_ii, neg_i, lt_ii, le_ii, gt_ii, ge_ii, eq_ii, ne_ii, eq_ss, ne_ss, isnot_bb, is_bb, is_non, isnot_non, isNonD, ix_tupD, ix_lstD, ix_fzD, at_lit0, at_lit1, at_lit2, at_lit3, len_fz, len_lst, len_tup, List.map_cons, List.map_nil, List.length_cons, List.length_nil, List.getElem?_cons_zero, List.getElem?_cons_succ, List.set_cons_zero, List.set_cons_succ, List.cons_append, List.nil_append, List.replicate_succ, List.replicate_zero, Nat.reduceSub, Nat.reduceAdd, Nat.reduceLeDiff, if_true, if_false, Bool.false_eq_true, Bool.true_eq_false, Bool.not_true, Bool.not_false, Option.bind_some, Option.map_some, Nat.zero_add, ite_true, ite_false, Int.cast_ofNat_Int, Int.natCast_zero, Int.natCast_one, Int.reduceLT, Int.reduceLE, Int.reduceEq, Int.reduceAdd, Int.reduceSub, Int.reduceNeg, decide_true, decide_false, true_and, and_true, le_size, add_ll, add_tt, tuple_lst, tuple_tup, list_tup, list_lst, sl_tup, sl_lst, ii_non_int, ii_non_bool, ii_non_str, ii_non_tuple, ii_non_list, ii_non_dict, ii_bl_int, ii_bl_bool, ii_bl_str, ii_bl_tuple, ii_bl_list, ii_bl_dict, ii_int_int, ii_int_bool, ii_int_str, ii_int_tuple, ii_int_list, ii_int_dict, ii_str_int, ii_str_bool, ii_str_str, ii_str_tuple, ii_str_list, ii_str_dict, ii_tup_int, ii_tup_bool, ii_tup_str, ii_tup_tuple, ii_tup_list, ii_tup_dict, ii_lst_int, ii_lst_bool, ii_lst_str, ii_lst_tuple, ii_lst_list, ii_lst_dict, ii_fz_int, ii_fz_bool, ii_fz_str, ii_fz_tuple, ii_fz_list, ii_fz_dict]
                have hfr2 : (V.set S.length (.dT (tabI (putD kvs (behL g 0 s) (.int (dep + 1))))))[T.length]? = some (.lst (fresh.map tupI)) := by rw [List.getElem?_set_ne (by omega)]; exact hfr
                refine k_App hfr2 ?_
                simp only [wps, w_C, w_Var, k_Var, w_Bin, k_Bin1, k_Bin2, w_Tst, k_B, w_Chain, k_Ch1, k_Ch2, k_Ch3t, k_Ch3f, k_Ch4, w_And, w_Or, w_Not, k_Andt, k_Andf, k_Ort, k_Orf, k_Not, w_bAnd, w_bOr, w_bNot, w_bYes, k_bAndt, k_bAndf, k_bOrt, k_bOrf, k_bNot, w_dIf, k_dIft, k_dIff, w_aNil, w_aCons, k_Cons1, k_Cons2, w_Tup, w_Lst, w_Cell, k_Tup, k_Lst, k_Cell, w_Call, k_Call, w_CallF, k_CallF, w_CallN, k_CallN, k_New, k_AddN1, w_Un, k_Un, w_Sl, k_Sl1, k_Sl2, k_Sl3, w_No, w_So, k_So, w_iSeq, k_Items, w_Range1, w_Range2, k_Rng1, k_Rng2, w_iEnum, k_Enum, w_Comp, k_Comp, k_AsL, w_TupRg, w_LstRg, k_TupRg, k_LstRg, w_Rev, k_Rev, rev_tup, rev_lst, k_Di1, k_PT1, k_PT2, w_Nil, w_Nop, w_Fl, w_Seq, k_Seqn, k_Seqr, k_Seqb, k_Seqc, w_Expr, k_Drop, w_Ret, k_Ret, w_Set, k_Set, w_Asg, k_Asg1, k_Nx, w_If, k_Ift, k_Iff, w_For, k_For, k_Put1, k_Put2, w_Fun, w_Fun0, k_Funn, k_Funr, w_newK, w_newT, asB_bl, gN, gTupD, gsCons, gsNil, wipeE, itemsOf, seqItems, len_str, add_ii, sub_ii, neg_i, lt_ii, le_ii, gt_ii, ge_ii, eq_ii, ne_ii, eq_ss, ne_ss, isnot_bb, is_bb, is_non, isnot_non, isNonD, ix_tupD, ix_lstD, ix_fzD, at_lit0, at_lit1, at_lit2, at_lit3, len_fz, len_lst, len_tup, List.map_cons, List.map_nil, List.length_cons, List.length_nil, List.getElem?_cons_zero, List.getElem?_cons_succ, List.set_cons_zero, List.set_cons_succ, List.cons_append, List.nil_append, List.replicate_succ, List.replicate_zero, Nat.reduceSub, Nat.reduceAdd, Nat.reduceLeDiff, if_true, if_false, Bool.false_eq_true, Bool.true_eq_false, Bool.not_true, Bool.not_false, Option.bind_some, Option.map_some, Nat.zero_add, ite_true, ite_false, Int.cast_ofNat_Int, Int.natCast_zero, Int.natCast_one, Int.reduceLT, Int.reduceLE, Int.reduceEq, Int.reduceAdd, Int.reduceSub, Int.reduceNeg, decide_true, decide_false, true_and, and_true, le_size, add_ll, add_tt, tuple_lst, tuple_tup, list_tup, list_lst, sl_tup, sl_lst, ii_non_int, ii_non_bool, ii_non_str, ii_non_tuple, ii_non_list, ii_non_dict, ii_bl_int, ii_bl_bool, ii_bl_str, ii_bl_tuple, ii_bl_list, ii_bl_dict, ii_int_int, ii_int_bool, ii_int_str, ii_int_tuple, ii_int_list, ii_int_dict, ii_str_int, ii_str_bool, ii_str_str, ii_str_tuple, ii_str_list, ii_str_dict, ii_tup_int, ii_tup_bool, ii_tup_str, ii_tup_tuple, ii_tup_list, ii_tup_dict, ii_lst_int, ii_lst_bool, ii_lst_str, ii_lst_tuple, ii_lst_list, ii_lst_dict, ii_fz_int, ii_fz_bool, ii_fz_str, ii_fz_tuple, ii_fz_list, ii_fz_dict]
                refine ⟨_, hfr2, by rw [List.length_map, sizeLine_eq]; omega, ?_⟩
                simp only [wps, w_C, w_Var, k_Var, w_Bin, k_Bin1, k_Bin2, w_Tst, k_B, w_Chain, k_Ch1, k_Ch2, k_Ch3t, k_Ch3f, k_Ch4, w_And, w_Or, w_Not, k_Andt, k_Andf, k_Ort, k_Orf, k_Not, w_bAnd, w_bOr, w_bNot, w_bYes, k_bAndt, k_bAndf, k_bOrt, k_bOrf, k_bNot, w_dIf, k_dIft, k_dIff, w_aNil, w_aCons, k_Cons1, k_Cons2, w_Tup, w_Lst, w_Cell, k_Tup, k_Lst, k_Cell, w_Call, k_Call, w_CallF, k_CallF, w_CallN, k_CallN, k_New, k_AddN1, w_Un, k_Un, w_Sl, k_Sl1, k_Sl2, k_Sl3, w_No, w_So, k_So, w_iSeq, k_Items, w_Range1, w_Range2, k_Rng1, k_Rng2, w_iEnum, k_Enum, w_Comp, k_Comp, k_AsL, w_TupRg, w_LstRg, k_TupRg, k_LstRg, w_Rev, k_Rev, rev_tup, rev_lst, k_Di1, k_PT1, k_PT2, w_Nil, w_Nop, w_Fl, w_Seq, k_Seqn, k_Seqr, k_Seqb, k_Seqc, w_Expr, k_Drop, w_Ret, k_Ret, w_Set, k_Set, w_Asg, k_Asg1, k_Nx, w_If, k_Ift, k_Iff, w_For, k_For, k_Put1, k_Put2, w_Fun, w_Fun0, k_Funn, k_Funr, w_newK, w_newT, asB_bl, gN, gTupD, gsCons, gsNil, wipeE, itemsOf, seqItems, len_str, add_ii, sub_ii, neg_i, lt_ii, le_ii, gt_ii, ge_ii, eq_ii, ne_ii, eq_ss, ne_ss, isnot_bb, is_bb, is_non, isnot_non, isNonD, ix_tupD, ix_lstD, ix_fzD, at_lit0, at_lit1, at_lit2, at_lit3, len_fz, len_lst, len_tup, List.map_cons, List.map_nil, List.length_cons, List.length_nil, List.getElem?_cons_zero, List.getElem?_cons_succ, List.set_cons_zero, List.set_cons_succ, List.cons_append, List.nil_append, List.replicate_succ, List.replicate_zero, Nat.reduceSub, Nat.reduceAdd, Nat.reduceLeDiff, if_true, if_false, Bool.false_eq_true, Bool.true_eq_false, Bool.not_true, Bool.not_false, Option.bind_some, Option.map_some, Nat.zero_add, ite_true, ite_false, Int.cast_ofNat_Int, Int.natCast_zero, Int.natCast_one, Int.reduceLT, Int.reduceLE, Int.reduceEq, Int.reduceAdd, Int.reduceSub, Int.reduceNeg, decide_true, decide_false, true_and, and_true, le_size, add_ll, add_tt, tuple_lst, tuple_tup, list_tup, list_lst, sl_tup, sl_lst, ii_non_int, ii_non_bool, ii_non_str, ii_non_tuple, ii_non_list, ii_non_dict, ii_bl_int, ii_bl_bool, ii_bl_str, ii_bl_tuple, ii_bl_list, ii_bl_dict, ii_int_int, ii_int_bool, ii_int_str, ii_int_tuple, ii_int_list, ii_int_dict, ii_str_int, ii_str_bool, ii_str_str, ii_str_tuple, ii_str_list, ii_str_dict, ii_tup_int, ii_tup_bool, ii_tup_str, ii_tup_tuple, ii_tup_list, ii_tup_dict, ii_lst_int, ii_lst_bool, ii_lst_str, ii_lst_tuple, ii_lst_list, ii_lst_dict, ii_fz_int, ii_fz_bool, ii_fz_str, ii_fz_tuple, ii_fz_list, ii_fz_dict]
                have hpl : (putD kvs (behL g 0 s) (.int (dep + 1))).length = kvs.length + 1 := by
                  rw [(valD_none hno).2, List.length_append]; rfl
                refine ⟨putD kvs (behL g 0 s) (.int (dep + 1)), fresh ++ [behL g 0 s], left, _, _, er, rfl, ⟨?_, ?_, hs.ok.add hE hno _, putD_ne _ _ _⟩, ?_, fun e => ?_, fun x hx => hsub x (List.mem_cons_of_mem _ hx), fun x hx => ?_, ?_⟩
                · exact (hs.kx.set (Nat.le_refl _) _).set (by omega) _
                · rw [List.getElem?_set_ne (by omega)]
                  exact List.getElem?_set_self hqV
                · rw [set_get hfr2, List.map_append]; rfl
                · have hn := hnT e
                  have hlt := (List.getElem?_eq_some_iff.mp hn.1).1
                  rw [List.getElem?_set_ne (by omega), List.getElem?_set_ne (fun z => hn.2.1 z.symm)]
                  exact hlvk e
                · rcases List.mem_append.mp hx with z | z
                  · exact hfe x z
                  · rw [List.mem_singleton.mp z]
                    refine ⟨hE, ?_⟩
                    rw [beh_sum hG, hss, Int.mul_add]
                    omega
                · rw [List.length_append, hpl]
                  show fresh.length + 1 ≤ kvs.length + 1
                  omega
              · simp only [wps, w_C, w_Var, k_Var, w_Bin, k_Bin1, k_Bin2, w_Tst, k_B, w_Chain, k_Ch1, k_Ch2, k_Ch3t, k_Ch3f, k_Ch4, w_And, w_Or, w_Not, k_Andt, k_Andf, k_Ort, k_Orf, k_Not, w_bAnd, w_bOr, w_bNot, w_bYes, k_bAndt, k_bAndf, k_bOrt, k_bOrf, k_bNot, w_dIf, k_dIft, k_dIff, w_aNil, w_aCons, k_Cons1, k_Cons2, w_Tup, w_Lst, w_Cell, k_Tup, k_Lst, k_Cell, w_Call, k_Call, w_CallF, k_CallF, w_CallN, k_CallN, k_New, k_AddN1, w_Un, k_Un, w_Sl, k_Sl1, k_Sl2, k_Sl3, w_No, w_So, k_So, w_iSeq, k_Items, w_Range1, w_Range2, k_Rng1, k_Rng2, w_iEnum, k_Enum, w_Comp, k_Comp, k_AsL, w_TupRg, w_LstRg, k_TupRg, k_LstRg, w_Rev, k_Rev, rev_tup, rev_lst, k_Di1, k_PT1, k_PT2, w_Nil, w_Nop, w_Fl, w_Seq, k_Seqn, k_Seqr, k_Seqb, k_Seqc, w_Expr, k_Drop, w_Ret, k_Ret, w_Set, k_Set, w_Asg, k_Asg1, k_Nx, w_If, k_Ift, k_Iff, w_For, k_For, k_Put1, k_Put2, w_Fun, w_Fun0, k_Funn, k_Funr, w_newK, w_newT, asB_bl, gN, gTupD, gsCons, gsNil, wipeE, itemsOf, seqItems, len_str, add_ii, sub_ii, neg_i, lt_ii, le_ii, gt_ii, ge_ii, eq_ii, ne_ii, eq_ss, ne_ss, isnot_bb, is_bb, is_non, isnot_non, isNonD, ix_tupD, ix_lstD, ix_fzD, at_lit0, at_lit1, at_lit2, at_lit3, len_fz, len_lst, len_tup, List.map_cons, List.map_nil, List.length_cons, List.length_nil, List.getElem?_cons_zero, List.getElem?_cons_succ, List.set_cons_zero, List.set_cons_succ, List.cons_append, List.nil_append, List.replicate_succ, List.replicate_zero, Nat.reduceSub, Nat.reduceAdd, Nat.reduceLeDiff, if_true, if_false, Bool.false_eq_true, Bool.true_eq_false, Bool.not_true, Bool.not_false, Option.bind_some, Option.map_some, Nat.zero_add, ite_true, ite_false, Int.cast_ofNat_Int, Int.natCast_zero, Int.natCast_one, Int.reduceLT, Int.reduceLE, Int.reduceEq, Int.reduceAdd, Int.reduceSub, Int.reduceNeg, decide_true, decide_false, true_and, and_true, le_size, add_ll, add_tt, tuple_lst, tuple_tup, list_tup, list_lst, sl_tup, sl_lst, ii_non_int, ii_non_bool, ii_non_str, ii_non_tuple, ii_non_list, ii_non_dict, ii_bl_int, ii_bl_bool, ii_bl_str, ii_bl_tuple, ii_bl_list, ii_bl_dict, ii_int_int, ii_int_bool, ii_int_str, ii_int_tuple, ii_int_list, ii_int_dict, ii_str_int, ii_str_bool, ii_str_str, ii_str_tuple, ii_str_list, ii_str_dict, ii_tup_int, ii_tup_bool, ii_tup_str, ii_tup_tuple, ii_tup_list, ii_tup_dict, ii_lst_int, ii_lst_bool, ii_lst_str, ii_lst_tuple, ii_lst_list, ii_lst_dict, ii_fz_int, ii_fz_bool, ii_fz_str, ii_fz_tuple, ii_fz_list, ii_fz_dict]
                exact ⟨kvs, fresh, left, _, _, er, rfl, hs, hfr, hlvk, fun x hx => hsub x (List.mem_cons_of_mem _ hx), hfe, hfl⟩
          · obtain ⟨kvs, fresh, left, e9, e10, e1, e, hs, hfr, hlvk, hsub, hfe, hfl⟩ := hI
            subst e
            exact hQ kvs fresh _ _ V hs hfr hlvk hfe hfl
        have nxt : ∀ (kvs : List (List Int × D)) (fresh : List (List Int)) (e9 e10 : Option D) (V : Sto), SrI S k cs S.length kvs V → V[T.length]? = some (.lst (fresh.map tupI)) → (lvD = .ref nn → V[nn]? = some (.lst (lv'.map tupI))) → (∀ s ∈ fresh, Ent cs.length s ∧ s.sum = cs.sum - k * (dep + 1)) → fresh.length ≤ kvs.length →
            ∃ (kvs' : List (List Int × D)) (fresh' left' : List (List Int)) (e7' e8' e9' e10' : Option D), rest = left'.map tupI ∧ [some (D.tup [.int k, .tup (cs.map D.int)]), some (.int k), some (.tup (cs.map D.int)), some (.ref S.length), some lvD, some (.int dep), some (.ref T.length), some (tupI s), some (.lst (gs.map tupI)), e9, e10] = [some (D.tup [.int k, .tup (cs.map D.int)]), some (.int k), some (.tup (cs.map D.int)), some (.ref S.length), some lvD, some (.int dep), some (.ref T.length), e7', e8', e9', e10'] ∧
              SrI S k cs S.length kvs' V ∧ V[T.length]? = some (.lst (fresh'.map tupI)) ∧ (lvD = .ref nn → V[nn]? = some (.lst (lv'.map tupI))) ∧ (∀ s ∈ left', s ∈ lv') ∧ (∀ s ∈ fresh', Ent cs.length s ∧ s.sum = cs.sum - k * (dep + 1)) ∧ fresh'.length ≤ kvs'.length := fun kvs fresh e9 e10 V a b c d e =>
          ⟨kvs, fresh, left, _, _, _, _, er, rfl, a, b, c, fun x hx => hsub x (List.mem_cons_of_mem _ hx), d, e⟩
        refine k_bAndc (fun c => ?_) fun c => ?_
        · simp only [wps, w_C, w_Var, k_Var, w_Bin, k_Bin1, k_Bin2, w_Tst, k_B, w_Chain, k_Ch1, k_Ch2, k_Ch3t, k_Ch3f, k_Ch4, w_And, w_Or, w_Not, k_Andt, k_Andf, k_Ort, k_Orf, k_Not, w_bAnd, w_bOr, w_bNot, w_bYes, k_bAndt, k_bAndf, k_bOrt, k_bOrf, k_bNot, w_dIf, k_dIft, k_dIff, w_aNil, w_aCons, k_Cons1, k_Cons2, w_Tup, w_Lst, w_Cell, k_Tup, k_Lst, k_Cell, w_Call, k_Call, w_CallF, k_CallF, w_CallN, k_CallN, k_New, k_AddN1, w_Un, k_Un, w_Sl, k_Sl1, k_Sl2, k_Sl3, w_No, w_So, k_So, w_iSeq, k_Items, w_Range1, w_Range2, k_Rng1, k_Rng2, w_iEnum, k_Enum, w_Comp, k_Comp, k_AsL, w_TupRg, w_LstRg, k_TupRg, k_LstRg, w_Rev, k_Rev, rev_tup, rev_lst, k_Di1, k_PT1, k_PT2, w_Nil, w_Nop, w_Fl, w_Seq, k_Seqn, k_Seqr, k_Seqb, k_Seqc, w_Expr, k_Drop, w_Ret, k_Ret, w_Set, k_Set, w_Asg, k_Asg1, k_Nx, w_If, k_Ift, k_Iff, w_For, k_For, k_Put1, k_Put2, w_Fun, w_Fun0, k_Funn, k_Funr, w_newK, w_newT, asB_bl, gN, gTupD, gsCons, gsNil, wipeE, itemsOf, seqItems, len_str, add_ii, sub_ii, neg_i, lt_ii, le_ii, gt_ii, ge_ii, eq_ii, ne_ii, eq_ss, ne_ss, isnot_bb, is_bb, is_non, isnot_non, isNonD, ix_tupD, ix_lstD, ix_fzD, at_lit0, at_lit1, at_lit2, at_lit3, len_fz, len_lst, len_tup, List.map_cons, List.map_nil, List.length_cons, List.length_nil, List.getElem?_cons_zero, List.getElem?_cons_succ, List.set_cons_zero, List.set_cons_succ, List.cons_append, List.nil_append, List.replicate_succ, List.replicate_zero, Nat.reduceSub, Nat.reduceAdd, Nat.reduceLeDiff, if_true, if_false, Bool.false_eq_true, Bool.true_eq_false, Bool.not_true, Bool.not_false, Option.bind_some, Option.map_some, Nat.zero_add, ite_true, ite_false, Int.cast_ofNat_Int, Int.natCast_zero, Int.natCast_one, Int.reduceLT, Int.reduceLE, Int.reduceEq, Int.reduceAdd, Int.reduceSub, Int.reduceNeg, decide_true, decide_false, true_and, and_true, le_size, add_ll, add_tt, tuple_lst, tuple_tup, list_tup, list_lst, sl_tup, sl_lst, ii_non_int, ii_non_bool, ii_non_str, ii_non_tuple, ii_non_list, ii_non_dict, ii_bl_int, ii_bl_bool, ii_bl_str, ii_bl_tuple, ii_bl_list, ii_bl_dict, ii_int_int, ii_int_bool, ii_int_str, ii_int_tuple, ii_int_list, ii_int_dict, ii_str_int, ii_str_bool, ii_str_str, ii_str_tuple, ii_str_list, ii_str_dict, ii_tup_int, ii_tup_bool, ii_tup_str, ii_tup_tuple, ii_tup_list, ii_tup_dict, ii_lst_int, ii_lst_bool, ii_lst_str, ii_lst_tuple, ii_lst_list, ii_lst_dict, ii_fz_int, ii_fz_bool, ii_fz_str, ii_fz_tuple, ii_fz_list, ii_fz_dict, sum_I]
          refine k_Ifd (fun c2 => ?_) fun c2 => ?_
          · simp only [wps, w_C, w_Var, k_Var, w_Bin, k_Bin1, k_Bin2, w_Tst, k_B, w_Chain, k_Ch1, k_Ch2, k_Ch3t, k_Ch3f, k_Ch4, w_And, w_Or, w_Not, k_Andt, k_Andf, k_Ort, k_Orf, k_Not, w_bAnd, w_bOr, w_bNot, w_bYes, k_bAndt, k_bAndf, k_bOrt, k_bOrf, k_bNot, w_dIf, k_dIft, k_dIff, w_aNil, w_aCons, k_Cons1, k_Cons2, w_Tup, w_Lst, w_Cell, k_Tup, k_Lst, k_Cell, w_Call, k_Call, w_CallF, k_CallF, w_CallN, k_CallN, k_New, k_AddN1, w_Un, k_Un, w_Sl, k_Sl1, k_Sl2, k_Sl3, w_No, w_So, k_So, w_iSeq, k_Items, w_Range1, w_Range2, k_Rng1, k_Rng2, w_iEnum, k_Enum, w_Comp, k_Comp, k_AsL, w_TupRg, w_LstRg, k_TupRg, k_LstRg, w_Rev, k_Rev, rev_tup, rev_lst, k_Di1, k_PT1, k_PT2, w_Nil, w_Nop, w_Fl, w_Seq, k_Seqn, k_Seqr, k_Seqb, k_Seqc, w_Expr, k_Drop, w_Ret, k_Ret, w_Set, k_Set, w_Asg, k_Asg1, k_Nx, w_If, k_Ift, k_Iff, w_For, k_For, k_Put1, k_Put2, w_Fun, w_Fun0, k_Funn, k_Funr, w_newK, w_newT, asB_bl, gN, gTupD, gsCons, gsNil, wipeE, itemsOf, seqItems, len_str, add_ii, sub_ii, neg_i, lt_ii, le_ii, gt_ii, ge_ii, eq_ii, ne_ii, eq_ss, ne_ss, isnot_bb, is_bb, is_non, isnot_non, isNonD, ix_tupD, ix_lstD, ix_fzD, at_lit0, at_lit1, at_lit2, at_lit3, len_fz, len_lst, len_tup, List.map_cons, List.map_nil, List.length_cons, List.length_nil, List.getElem?_cons_zero, List.getElem?_cons_succ, List.set_cons_zero, List.set_cons_succ, List.cons_append, List.nil_append, List.replicate_succ, List.replicate_zero, Nat.reduceSub, Nat.reduceAdd, Nat.reduceLeDiff, if_true, if_false, Bool.false_eq_true, Bool.true_eq_false, Bool.not_true, Bool.not_false, Option.bind_some, Option.map_some, Nat.zero_add, ite_true, ite_false, Int.cast_ofNat_Int, Int.natCast_zero, Int.natCast_one, Int.reduceLT, Int.reduceLE, Int.reduceEq, Int.reduceAdd, Int.reduceSub, Int.reduceNeg, decide_true, decide_false, true_and, and_true, le_size, add_ll, add_tt, tuple_lst, tuple_tup, list_tup, list_lst, sl_tup, sl_lst, ii_non_int, ii_non_bool, ii_non_str, ii_non_tuple, ii_non_list, ii_non_dict, ii_bl_int, ii_bl_bool, ii_bl_str, ii_bl_tuple, ii_bl_list, ii_bl_dict, ii_int_int, ii_int_bool, ii_int_str, ii_int_tuple, ii_int_list, ii_int_dict, ii_str_int, ii_str_bool, ii_str_str, ii_str_tuple, ii_str_list, ii_str_dict, ii_tup_int, ii_tup_bool, ii_tup_str, ii_tup_tuple, ii_tup_list, ii_tup_dict, ii_lst_int, ii_lst_bool, ii_lst_str, ii_lst_tuple, ii_lst_list, ii_lst_dict, ii_fz_int, ii_fz_bool, ii_fz_str, ii_fz_tuple, ii_fz_list, ii_fz_dict]
            exact kk S.length kvs dep U hs
          · simp only [w_Nil, k_Seqn]
            exact inner _ nxt
        · simp only [k_Iff, w_Nil, k_Seqn]
          exact inner _ nxt
    · obtain ⟨kvs, fresh, left, e7, e8, e9, e10, e1, e, hs, hfr, hlvk, hsub, hfe, hfl⟩ := hI
      subst e
      simp only [wps, w_C, w_Var, k_Var, w_Bin, k_Bin1, k_Bin2, w_Tst, k_B, w_Chain, k_Ch1, k_Ch2, k_Ch3t, k_Ch3f, k_Ch4, w_And, w_Or, w_Not, k_Andt, k_Andf, k_Ort, k_Orf, k_Not, w_bAnd, w_bOr, w_bNot, w_bYes, k_bAndt, k_bAndf, k_bOrt, k_bOrf, k_bNot, w_dIf, k_dIft, k_dIff, w_aNil, w_aCons, k_Cons1, k_Cons2, w_Tup, w_Lst, w_Cell, k_Tup, k_Lst, k_Cell, w_Call, k_Call, w_CallF, k_CallF, w_CallN, k_CallN, k_New, k_AddN1, w_Un, k_Un, w_Sl, k_Sl1, k_Sl2, k_Sl3, w_No, w_So, k_So, w_iSeq, k_Items, w_Range1, w_Range2, k_Rng1, k_Rng2, w_iEnum, k_Enum, w_Comp, k_Comp, k_AsL, w_TupRg, w_LstRg, k_TupRg, k_LstRg, w_Rev, k_Rev, rev_tup, rev_lst, k_Di1, k_PT1, k_PT2, w_Nil, w_Nop, w_Fl, w_Seq, k_Seqn, k_Seqr, k_Seqb, k_Seqc, w_Expr, k_Drop, w_Ret, k_Ret, w_Set, k_Set, w_Asg, k_Asg1, k_Nx, w_If, k_Ift, k_Iff, w_For, k_For, k_Put1, k_Put2, w_Fun, w_Fun0, k_Funn, k_Funr, w_newK, w_newT, asB_bl, gN, gTupD, gsCons, gsNil, wipeE, itemsOf, seqItems, len_str, add_ii, sub_ii, neg_i, lt_ii, le_ii, gt_ii, ge_ii, eq_ii, ne_ii, eq_ss, ne_ss, isnot_bb, is_bb, is_non, isnot_non, isNonD, ix_tupD, ix_lstD, ix_fzD, at_lit0, at_lit1, at_lit2, at_lit3, len_fz, len_lst, len_tup, List.map_cons, List.map_nil, List.length_cons, List.length_nil, List.getElem?_cons_zero, List.getElem?_cons_succ, List.set_cons_zero, List.set_cons_succ, List.cons_append, List.nil_append, List.replicate_succ, List.replicate_zero, Nat.reduceSub, Nat.reduceAdd, Nat.reduceLeDiff, if_true, if_false, Bool.false_eq_true, Bool.true_eq_false, Bool.not_true, Bool.not_false, Option.bind_some, Option.map_some, Nat.zero_add, ite_true, ite_false, Int.cast_ofNat_Int, Int.natCast_zero, Int.natCast_one, Int.reduceLT, Int.reduceLE, Int.reduceEq, Int.reduceAdd, Int.reduceSub, Int.reduceNeg, decide_true, decide_false, true_and, and_true, le_size, add_ll, add_tt, tuple_lst, tuple_tup, list_tup, list_lst, sl_tup, sl_lst, ii_non_int, ii_non_bool, ii_non_str, ii_non_tuple, ii_non_list, ii_non_dict, ii_bl_int, ii_bl_bool, ii_bl_str, ii_bl_tuple, ii_bl_list, ii_bl_dict, ii_int_int, ii_int_bool, ii_int_str, ii_int_tuple, ii_int_list, ii_int_dict, ii_str_int, ii_str_bool, ii_str_str, ii_str_tuple, ii_str_list, ii_str_dict, ii_tup_int, ii_tup_bool, ii_tup_str, ii_tup_tuple, ii_tup_list, ii_tup_dict, ii_lst_int, ii_lst_bool, ii_lst_str, ii_lst_tuple, ii_lst_list, ii_lst_dict, ii_fz_int, ii_fz_bool, ii_fz_str, ii_fz_tuple, ii_fz_list, ii_fz_dict]
      refine ⟨25 - (dep + 1).toNat, by omega, kvs, fresh, _, dep + 1, _, _, _, _, _, rfl, by omega, by omega, rfl, .inr ⟨T.length, rfl, hfr, by omega, by omega⟩, hs, hfe⟩
end G
end DL
end L2

set_option Elab.async false
set_option linter.all false
set_option maxRecDepth 100000
namespace L2
namespace DL
open PySem PySem.Spec PyProof.Rows
namespace G
theorem ix_in {S : Sto} {l : List D} {i : Int} {P : D → Sto → Prop} (p : D → Prop) (hl : ∀ d ∈ l, p d) (h0 : 0 ≤ i) (h : i < l.length) (k : ∀ d, p d → P d S) : Wp (lift (oIx S (.lst l) (.int i)) S) P := by
  rw [ix_lstD, atI_in h0 h]
  exact Wp.of rfl (k _ (hl _ (List.getElem_mem _)))
theorem at_in {S : Sto} {l : List D} {i : Int} {P : D → Sto → Prop} (p : D → Prop) (hl : ∀ d ∈ l, p d) (h0 : 0 ≤ i) (h : i < l.length) (k : ∀ d, p d → P d S) : Wp (lift (atI l i) S) P := by
  rw [atI_in h0 h]
  exact Wp.of rfl (k _ (hl _ (List.getElem_mem _)))
def TI (d : D) : Prop := ∃ ns : List Int, d = tupI ns ∧ ns.length ≤ 100
theorem TI_list : ∀ {ds : List D}, (∀ d ∈ ds, TI d) → ∃ nss : List (List Int), ds = nss.map tupI ∧ ∀ g ∈ nss, g.length ≤ 100
  | [], _ => ⟨[], rfl, fun g hg => nomatch hg⟩
  | d :: ds, h => by
    obtain ⟨ns, e, hl⟩ := h d List.mem_cons_self
    obtain ⟨nss, e2, h2⟩ := TI_list fun d hd => h d (List.mem_cons_of_mem _ hd)
    refine ⟨ns :: nss, by rw [e, e2]; rfl, fun g hg => ?_⟩
    rcases List.mem_cons.mp hg with z | z
    · rw [z]; exact hl
    · exact h2 g z
theorem cutD_sub {ds : List D} {l u : Option Int} {d : D} (h : d ∈ cutD ds l u) : d ∈ ds := List.mem_of_mem_drop (List.mem_of_mem_take h)
theorem cutD_len (ds : List D) (l u : Option Int) : (cutD ds l u).length ≤ ds.length := by
  unfold cutD
  rw [List.length_take, List.length_drop]
  omega
theorem cutI_lo (s : List Int) (h : Int) (h0 : 0 ≤ h) (h1 : h ≤ s.length) : cutD (s.map D.int) none (some h) = (s.take h.toNat).map D.int := by
  rw [cut_lo _ _ h0 (by rw [List.length_map]; exact h1), List.map_take]
theorem cutI_hi (s : List Int) (h : Int) (h0 : 0 ≤ h) (h1 : h ≤ s.length) : cutD (s.map D.int) (some h) none = (s.drop h.toNat).map D.int := by
  rw [cut_hi _ _ h0 (by rw [List.length_map]; exact h1), List.map_drop]
theorem addI {S : Sto} {a b : List Int} (h : a.length + b.length ≤ 1000) : oAdd S (.tup (a.map D.int)) (.tup (b.map D.int)) = some (.tup ((a ++ b).map D.int)) := by
  rw [add_tt (by rw [List.length_map, List.length_map]; exact h), List.map_append]
theorem minD {S : Sto} (c : Int) : oMin2 S [.int 4, .int c] = some (.int (if c < 4 then c else 4)) := rfl
open Classical in
theorem bent_wp {ns : List Int} {m : Nat} {S : Sto} {k : Int} {cs : List Int} {stands : List (List Int)} {P : D → Sto → Prop} (hd : DK ns m S) (hk : 1 ≤ k) (hc1 : 1 ≤ cs.length) (hc5 : cs.length ≤ 5) (h1 : 1 ≤ stands.length) (h2 : stands.length ≤ 3125) (hs : ∀ s ∈ stands, Ent cs.length s)
    (kk : ∀ (rs : List (List Int)) S', rs.length ≤ 5000 + 2000 → (∀ g ∈ rs, g.length ≤ 100) → Dr ns m S S' → P (.lst (rs.map tupI)) S') : Wp (f__law_e_bent [.ref m, .tup [.int k, .tup (cs.map D.int)], .lst (stands.map tupI)] S) P := by
  unfold f__law_e_bent d__law_e_bent
  simp only [wps, w_C, w_Var, k_Var, w_Bin, k_Bin1, k_Bin2, w_Tst, k_B, w_Chain, k_Ch1, k_Ch2, k_Ch3t, k_Ch3f, k_Ch4, w_And, w_Or, w_Not, k_Andt, k_Andf, k_Ort, k_Orf, k_Not, w_bAnd, w_bOr, w_bNot, w_bYes, k_bAndt, k_bAndf, k_bOrt, k_bOrf, k_bNot, w_dIf, k_dIft, k_dIff, w_aNil, w_aCons, k_Cons1, k_Cons2, w_Tup, w_Lst, w_Cell, k_Tup, k_Lst, k_Cell, w_Call, k_Call, w_CallF, k_CallF, w_CallN, k_CallN, k_New, k_AddN1, w_Un, k_Un, w_Sl, k_Sl1, k_Sl2, k_Sl3, w_No, w_So, k_So, w_iSeq, k_Items, w_Range1, w_Range2, k_Rng1, k_Rng2, w_iEnum, k_Enum, w_Comp, k_Comp, k_AsL, w_TupRg, w_LstRg, k_TupRg, k_LstRg, w_Rev, k_Rev, rev_tup, rev_lst, k_Di1, k_PT1, k_PT2, w_Nil, w_Nop, w_Fl, w_Seq, k_Seqn, k_Seqr, k_Seqb, k_Seqc, w_Expr, k_Drop, w_Ret, k_Ret, w_Set, k_Set, w_Asg, k_Asg1, k_Nx, w_If, k_Ift, k_Iff, w_For, k_For, k_Put1, k_Put2, w_Fun, w_Fun0, k_Funn, k_Funr, w_newK, w_newT, asB_bl, gN, gTupD, gsCons, gsNil, wipeE, itemsOf, seqItems, len_str, add_ii, sub_ii, neg_i, lt_ii, le_ii, gt_ii, ge_ii, eq_ii, ne_ii, eq_ss, ne_ss, isnot_bb, is_bb, is_non, isnot_non, isNonD, ix_tupD, ix_lstD, ix_fzD, at_lit0, at_lit1, at_lit2, at_lit3, len_fz, len_lst, len_tup, List.map_cons, List.map_nil, List.length_cons, List.length_nil, List.getElem?_cons_zero, List.getElem?_cons_succ, List.set_cons_zero, List.set_cons_succ, List.cons_append, List.nil_append, List.replicate_succ, List.replicate_zero, Nat.reduceSub, Nat.reduceAdd, Nat.reduceLeDiff, if_true, if_false, Bool.false_eq_true, Bool.true_eq_false, Bool.not_true, Bool.not_false, Option.bind_some, Option.map_some, Nat.zero_add, ite_true, ite_false, Int.cast_ofNat_Int, Int.natCast_zero, Int.natCast_one, Int.reduceLT, Int.reduceLE, Int.reduceEq, Int.reduceAdd, Int.reduceSub, Int.reduceNeg, decide_true, decide_false, true_and, and_true, le_size, add_ll, add_tt, tuple_lst, tuple_tup, list_tup, list_lst, sl_tup, sl_lst, ii_non_int, ii_non_bool, ii_non_str, ii_non_tuple, ii_non_list, ii_non_dict, ii_bl_int, ii_bl_bool, ii_bl_str, ii_bl_tuple, ii_bl_list, ii_bl_dict, ii_int_int, ii_int_bool, ii_int_str, ii_int_tuple, ii_int_list, ii_int_dict, ii_str_int, ii_str_bool, ii_str_str, ii_str_tuple, ii_str_list, ii_str_dict, ii_tup_int, ii_tup_bool, ii_tup_str, ii_tup_tuple, ii_tup_list, ii_tup_dict, ii_lst_int, ii_lst_bool, ii_lst_str, ii_lst_tuple, ii_lst_list, ii_lst_dict, ii_fz_int, ii_fz_bool, ii_fz_str, ii_fz_tuple, ii_fz_list, ii_fz_dict, List.length_map]
  refine pick_dr hd (by omega) (by omega) fun a S1 a1 a2 r1 => ?_
  have hin : a.toNat < stands.length := by omega
  obtain ⟨s, es⟩ : ∃ s, s = stands[a.toNat] := ⟨_, rfl⟩
  have hse : Ent cs.length s := by rw [es]; exact hs _ (List.getElem_mem hin)
  have hsl := hse.1
  have hix : ∀ T : Sto, oIx T (.lst (stands.map tupI)) (.int a) = some (.tup (s.map D.int)) := fun T => by
    rw [ix_lstD]
    refine at_nat a1 ?_
    rw [List.getElem?_map, List.getElem?_eq_getElem hin, ← es]
    rfl
  simp only [wps, w_C, w_Var, k_Var, w_Bin, k_Bin1, k_Bin2, w_Tst, k_B, w_Chain, k_Ch1, k_Ch2, k_Ch3t, k_Ch3f, k_Ch4, w_And, w_Or, w_Not, k_Andt, k_Andf, k_Ort, k_Orf, k_Not, w_bAnd, w_bOr, w_bNot, w_bYes, k_bAndt, k_bAndf, k_bOrt, k_bOrf, k_bNot, w_dIf, k_dIft, k_dIff, w_aNil, w_aCons, k_Cons1, k_Cons2, w_Tup, w_Lst, w_Cell, k_Tup, k_Lst, k_Cell, w_Call, k_Call, w_CallF, k_CallF, w_CallN, k_CallN, k_New, k_AddN1, w_Un, k_Un, w_Sl, k_Sl1, k_Sl2, k_Sl3, w_No, w_So, k_So, w_iSeq, k_Items, w_Range1, w_Range2, k_Rng1, k_Rng2, w_iEnum, k_Enum, w_Comp, k_Comp, k_AsL, w_TupRg, w_LstRg, k_TupRg, k_LstRg, w_Rev, k_Rev, rev_tup, rev_lst, k_Di1, k_PT1, k_PT2, w_Nil, w_Nop, w_Fl, w_Seq, k_Seqn, k_Seqr, k_Seqb, k_Seqc, w_Expr, k_Drop, w_Ret, k_Ret, w_Set, k_Set, w_Asg, k_Asg1, k_Nx, w_If, k_Ift, k_Iff, w_For, k_For, k_Put1, k_Put2, w_Fun, w_Fun0, k_Funn, k_Funr, w_newK, w_newT, asB_bl, gN, gTupD, gsCons, gsNil, wipeE, itemsOf, seqItems, len_str, add_ii, sub_ii, neg_i, lt_ii, le_ii, gt_ii, ge_ii, eq_ii, ne_ii, eq_ss, ne_ss, isnot_bb, is_bb, is_non, isnot_non, isNonD, ix_tupD, ix_lstD, ix_fzD, at_lit0, at_lit1, at_lit2, at_lit3, len_fz, len_lst, len_tup, List.map_cons, List.map_nil, List.length_cons, List.length_nil, List.getElem?_cons_zero, List.getElem?_cons_succ, List.set_cons_zero, List.set_cons_succ, List.cons_append, List.nil_append, List.replicate_succ, List.replicate_zero, Nat.reduceSub, Nat.reduceAdd, Nat.reduceLeDiff, if_true, if_false, Bool.false_eq_true, Bool.true_eq_false, Bool.not_true, Bool.not_false, Option.bind_some, Option.map_some, Nat.zero_add, ite_true, ite_false, Int.cast_ofNat_Int, Int.natCast_zero, Int.natCast_one, Int.reduceLT, Int.reduceLE, Int.reduceEq, Int.reduceAdd, Int.reduceSub, Int.reduceNeg, decide_true, decide_false, true_and, and_true, le_size, add_ll, add_tt, tuple_lst, tuple_tup, list_tup, list_lst, sl_tup, sl_lst, ii_non_int, ii_non_bool, ii_non_str, ii_non_tuple, ii_non_list, ii_non_dict, ii_bl_int, ii_bl_bool, ii_bl_str, ii_bl_tuple, ii_bl_list, ii_bl_dict, ii_int_int, ii_int_bool, ii_int_str, ii_int_tuple, ii_int_list, ii_int_dict, ii_str_int, ii_str_bool, ii_str_str, ii_str_tuple, ii_str_list, ii_str_dict, ii_tup_int, ii_tup_bool, ii_tup_str, ii_tup_tuple, ii_tup_list, ii_tup_dict, ii_lst_int, ii_lst_bool, ii_lst_str, ii_lst_tuple, ii_lst_list, ii_lst_dict, ii_fz_int, ii_fz_bool, ii_fz_str, ii_fz_tuple, ii_fz_list, ii_fz_dict, hix, List.length_map]
  refine pick_dr r1.dk (by omega) (by omega) fun h S2 b1 b2 r2 => ?_
  have hsx : oIx S2 (.tup (s.map D.int)) (.int h) = some (.int (s[h.toNat]'(by omega))) := by
    rw [ix_tupD]
    refine at_nat b1 ?_
    rw [List.getElem?_map, List.getElem?_eq_getElem (by omega)]
    rfl
  have lo := cutI_lo s h b1 (by omega)
  have hi := cutI_hi s (h + 1) (by omega) (by omega)
  have A1 : ∀ (T : Sto) (x : Int), oAdd T (.tup ((s.take h.toNat).map D.int)) (.tup [.int x]) = some (.tup ((s.take h.toNat ++ [x]).map D.int)) := fun T x => addI (b := [x]) (by rw [List.length_take]; show _ + 1 ≤ 1000; omega)
  have A2 : ∀ (T : Sto) (x : Int), oAdd T (.tup ((s.take h.toNat ++ [x]).map D.int)) (.tup ((s.drop (h + 1).toNat).map D.int)) = some (.tup ((s.take h.toNat ++ [x] ++ s.drop (h + 1).toNat).map D.int)) := fun T x => addI (by rw [List.length_append, List.length_take, List.length_drop]; show _ + 1 + _ ≤ 1000; omega)
  have lenx : ∀ x : Int, (s.take h.toNat ++ [x] ++ s.drop (h + 1).toNat).length = cs.length := fun x => by
    rw [List.length_append, List.length_append, List.length_take, List.length_drop]
    show min h.toNat s.length + 1 + (s.length - (h + 1).toNat) = _
    omega
  simp only [wps, w_C, w_Var, k_Var, w_Bin, k_Bin1, k_Bin2, w_Tst, k_B, w_Chain, k_Ch1, k_Ch2, k_Ch3t, k_Ch3f, k_Ch4, w_And, w_Or, w_Not, k_Andt, k_Andf, k_Ort, k_Orf, k_Not, w_bAnd, w_bOr, w_bNot, w_bYes, k_bAndt, k_bAndf, k_bOrt, k_bOrf, k_bNot, w_dIf, k_dIft, k_dIff, w_aNil, w_aCons, k_Cons1, k_Cons2, w_Tup, w_Lst, w_Cell, k_Tup, k_Lst, k_Cell, w_Call, k_Call, w_CallF, k_CallF, w_CallN, k_CallN, k_New, k_AddN1, w_Un, k_Un, w_Sl, k_Sl1, k_Sl2, k_Sl3, w_No, w_So, k_So, w_iSeq, k_Items, w_Range1, w_Range2, k_Rng1, k_Rng2, w_iEnum, k_Enum, w_Comp, k_Comp, k_AsL, w_TupRg, w_LstRg, k_TupRg, k_LstRg, w_Rev, k_Rev, rev_tup, rev_lst, k_Di1, k_PT1, k_PT2, w_Nil, w_Nop, w_Fl, w_Seq, k_Seqn, k_Seqr, k_Seqb, k_Seqc, w_Expr, k_Drop, w_Ret, k_Ret, w_Set, k_Set, w_Asg, k_Asg1, k_Nx, w_If, k_Ift, k_Iff, w_For, k_For, k_Put1, k_Put2, w_Fun, w_Fun0, k_Funn, k_Funr, w_newK, w_newT, asB_bl, gN, gTupD, gsCons, gsNil, wipeE, itemsOf, seqItems, len_str, add_ii, sub_ii, neg_i, lt_ii, le_ii, gt_ii, ge_ii, eq_ii, ne_ii, eq_ss, ne_ss, isnot_bb, is_bb, is_non, isnot_non, isNonD, ix_tupD, ix_lstD, ix_fzD, at_lit0, at_lit1, at_lit2, at_lit3, len_fz, len_lst, len_tup, List.map_cons, List.map_nil, List.length_cons, List.length_nil, List.getElem?_cons_zero, List.getElem?_cons_succ, List.set_cons_zero, List.set_cons_succ, List.cons_append, List.nil_append, List.replicate_succ, List.replicate_zero, Nat.reduceSub, Nat.reduceAdd, Nat.reduceLeDiff, if_true, if_false, Bool.false_eq_true, Bool.true_eq_false, Bool.not_true, Bool.not_false, Option.bind_some, Option.map_some, Nat.zero_add, ite_true, ite_false, Int.cast_ofNat_Int, Int.natCast_zero, Int.natCast_one, Int.reduceLT, Int.reduceLE, Int.reduceEq, Int.reduceAdd, Int.reduceSub, Int.reduceNeg, decide_true, decide_false, true_and, and_true, le_size, add_ll, add_tt, tuple_lst, tuple_tup, list_tup, list_lst, sl_tup, sl_lst, ii_non_int, ii_non_bool, ii_non_str, ii_non_tuple, ii_non_list, ii_non_dict, ii_bl_int, ii_bl_bool, ii_bl_str, ii_bl_tuple, ii_bl_list, ii_bl_dict, ii_int_int, ii_int_bool, ii_int_str, ii_int_tuple, ii_int_list, ii_int_dict, ii_str_int, ii_str_bool, ii_str_str, ii_str_tuple, ii_str_list, ii_str_dict, ii_tup_int, ii_tup_bool, ii_tup_str, ii_tup_tuple, ii_tup_list, ii_tup_dict, ii_lst_int, ii_lst_bool, ii_lst_str, ii_lst_tuple, ii_lst_list, ii_lst_dict, ii_fz_int, ii_fz_bool, ii_fz_str, ii_fz_tuple, ii_fz_list, ii_fz_dict, hsx, lo, hi, A1, A2]
  refine pick_dr r2.dk (by decide) (by decide) fun way S3 w1 w2 r3 => ?_
  have r := (r1.trans r2).trans r3
  have rowT : ∀ d ∈ stands.map tupI, TI d := fun d hd => by
    obtain ⟨x, hx, e⟩ := List.mem_map.mp hd
    exact ⟨x, e.symm, by have := (hs x hx).1; omega⟩
  have rl : (stands.map tupI).length ≤ 3125 := by rw [List.length_map]; exact h2
  have fin : ∀ (ds : List D) (T : Sto), (∀ d ∈ ds, TI d) → ds.length ≤ 7000 → Dr ns m S T → P (.lst ds) T := fun ds T hds hl hr => by
    obtain ⟨rs, e, hr2⟩ := TI_list hds
    subst e
    rw [List.length_map] at hl
    exact kk rs T hl hr2 hr
  have addR : ∀ (T : Sto) (a b : List D), a.length ≤ 3500 → b.length ≤ 3500 → oAdd T (.lst a) (.lst b) = some (.lst (a ++ b)) := fun T a b ha hb => add_LL rfl rfl (by rw [sizeLine_eq]; omega)
  have ts : TI (.tup (s.map D.int)) := ⟨s, rfl, by omega⟩
  have l1 := cutD_len (stands.map tupI) none (some a)
  have l2 := cutD_len (stands.map tupI) (some (a + 1)) none
  have l3 := cutD_len (stands.map tupI) (some 1) none
  simp only [wps, w_C, w_Var, k_Var, w_Bin, k_Bin1, k_Bin2, w_Tst, k_B, w_Chain, k_Ch1, k_Ch2, k_Ch3t, k_Ch3f, k_Ch4, w_And, w_Or, w_Not, k_Andt, k_Andf, k_Ort, k_Orf, k_Not, w_bAnd, w_bOr, w_bNot, w_bYes, k_bAndt, k_bAndf, k_bOrt, k_bOrf, k_bNot, w_dIf, k_dIft, k_dIff, w_aNil, w_aCons, k_Cons1, k_Cons2, w_Tup, w_Lst, w_Cell, k_Tup, k_Lst, k_Cell, w_Call, k_Call, w_CallF, k_CallF, w_CallN, k_CallN, k_New, k_AddN1, w_Un, k_Un, w_Sl, k_Sl1, k_Sl2, k_Sl3, w_No, w_So, k_So, w_iSeq, k_Items, w_Range1, w_Range2, k_Rng1, k_Rng2, w_iEnum, k_Enum, w_Comp, k_Comp, k_AsL, w_TupRg, w_LstRg, k_TupRg, k_LstRg, w_Rev, k_Rev, rev_tup, rev_lst, k_Di1, k_PT1, k_PT2, w_Nil, w_Nop, w_Fl, w_Seq, k_Seqn, k_Seqr, k_Seqb, k_Seqc, w_Expr, k_Drop, w_Ret, k_Ret, w_Set, k_Set, w_Asg, k_Asg1, k_Nx, w_If, k_Ift, k_Iff, w_For, k_For, k_Put1, k_Put2, w_Fun, w_Fun0, k_Funn, k_Funr, w_newK, w_newT, asB_bl, gN, gTupD, gsCons, gsNil, wipeE, itemsOf, seqItems, len_str, add_ii, sub_ii, neg_i, lt_ii, le_ii, gt_ii, ge_ii, eq_ii, ne_ii, eq_ss, ne_ss, isnot_bb, is_bb, is_non, isnot_non, isNonD, ix_tupD, ix_lstD, ix_fzD, at_lit0, at_lit1, at_lit2, at_lit3, len_fz, len_lst, len_tup, List.map_cons, List.map_nil, List.length_cons, List.length_nil, List.getElem?_cons_zero, List.getElem?_cons_succ, List.set_cons_zero, List.set_cons_succ, List.cons_append, List.nil_append, List.replicate_succ, List.replicate_zero, Nat.reduceSub, Nat.reduceAdd, Nat.reduceLeDiff, if_true, if_false, Bool.false_eq_true, Bool.true_eq_false, Bool.not_true, Bool.not_false, Option.bind_some, Option.map_some, Nat.zero_add, ite_true, ite_false, Int.cast_ofNat_Int, Int.natCast_zero, Int.natCast_one, Int.reduceLT, Int.reduceLE, Int.reduceEq, Int.reduceAdd, Int.reduceSub, Int.reduceNeg, decide_true, decide_false, true_and, and_true, le_size, add_ll, add_tt, tuple_lst, tuple_tup, list_tup, list_lst, sl_tup, sl_lst, ii_non_int, ii_non_bool, ii_non_str, ii_non_tuple, ii_non_list, ii_non_dict, ii_bl_int, ii_bl_bool, ii_bl_str, ii_bl_tuple, ii_bl_list, ii_bl_dict, ii_int_int, ii_int_bool, ii_int_str, ii_int_tuple, ii_int_list, ii_int_dict, ii_str_int, ii_str_bool, ii_str_str, ii_str_tuple, ii_str_list, ii_str_dict, ii_tup_int, ii_tup_bool, ii_tup_str, ii_tup_tuple, ii_tup_list, ii_tup_dict, ii_lst_int, ii_lst_bool, ii_lst_str, ii_lst_tuple, ii_lst_list, ii_lst_dict, ii_fz_int, ii_fz_bool, ii_fz_str, ii_fz_tuple, ii_fz_list, ii_fz_dict]
  refine k_Ifd (fun c => ?_) fun n0 => ?_
  · simp only [wps, w_C, w_Var, k_Var, w_Bin, k_Bin1, k_Bin2, w_Tst, k_B, w_Chain, k_Ch1, k_Ch2, k_Ch3t, k_Ch3f, k_Ch4, w_And, w_Or, w_Not, k_Andt, k_Andf, k_Ort, k_Orf, k_Not, w_bAnd, w_bOr, w_bNot, w_bYes, k_bAndt, k_bAndf, k_bOrt, k_bOrf, k_bNot, w_dIf, k_dIft, k_dIff, w_aNil, w_aCons, k_Cons1, k_Cons2, w_Tup, w_Lst, w_Cell, k_Tup, k_Lst, k_Cell, w_Call, k_Call, w_CallF, k_CallF, w_CallN, k_CallN, k_New, k_AddN1, w_Un, k_Un, w_Sl, k_Sl1, k_Sl2, k_Sl3, w_No, w_So, k_So, w_iSeq, k_Items, w_Range1, w_Range2, k_Rng1, k_Rng2, w_iEnum, k_Enum, w_Comp, k_Comp, k_AsL, w_TupRg, w_LstRg, k_TupRg, k_LstRg, w_Rev, k_Rev, rev_tup, rev_lst, k_Di1, k_PT1, k_PT2, w_Nil, w_Nop, w_Fl, w_Seq, k_Seqn, k_Seqr, k_Seqb, k_Seqc, w_Expr, k_Drop, w_Ret, k_Ret, w_Set, k_Set, w_Asg, k_Asg1, k_Nx, w_If, k_Ift, k_Iff, w_For, k_For, k_Put1, k_Put2, w_Fun, w_Fun0, k_Funn, k_Funr, w_newK, w_newT, asB_bl, gN, gTupD, gsCons, gsNil, wipeE, itemsOf, seqItems, len_str, add_ii, sub_ii, neg_i, lt_ii, le_ii, gt_ii, ge_ii, eq_ii, ne_ii, eq_ss, ne_ss, isnot_bb, is_bb, is_non, isnot_non, isNonD, ix_tupD, ix_lstD, ix_fzD, at_lit0, at_lit1, at_lit2, at_lit3, len_fz, len_lst, len_tup, List.map_cons, List.map_nil, List.length_cons, List.length_nil, List.getElem?_cons_zero, List.getElem?_cons_succ, List.set_cons_zero, List.set_cons_succ, List.cons_append, List.nil_append, List.replicate_succ, List.replicate_zero, Nat.reduceSub, Nat.reduceAdd, Nat.reduceLeDiff, if_true, if_false, Bool.false_eq_true, Bool.true_eq_false, Bool.not_true, Bool.not_false, Option.bind_some, Option.map_some, Nat.zero_add, ite_true, ite_false, Int.cast_ofNat_Int, Int.natCast_zero, Int.natCast_one, Int.reduceLT, Int.reduceLE, Int.reduceEq, Int.reduceAdd, Int.reduceSub, Int.reduceNeg, decide_true, decide_false, true_and, and_true, le_size, add_ll, add_tt, tuple_lst, tuple_tup, list_tup, list_lst, sl_tup, sl_lst, ii_non_int, ii_non_bool, ii_non_str, ii_non_tuple, ii_non_list, ii_non_dict, ii_bl_int, ii_bl_bool, ii_bl_str, ii_bl_tuple, ii_bl_list, ii_bl_dict, ii_int_int, ii_int_bool, ii_int_str, ii_int_tuple, ii_int_list, ii_int_dict, ii_str_int, ii_str_bool, ii_str_str, ii_str_tuple, ii_str_list, ii_str_dict, ii_tup_int, ii_tup_bool, ii_tup_str, ii_tup_tuple, ii_tup_list, ii_tup_dict, ii_lst_int, ii_lst_bool, ii_lst_str, ii_lst_tuple, ii_lst_list, ii_lst_dict, ii_fz_int, ii_fz_bool, ii_fz_str, ii_fz_tuple, ii_fz_list, ii_fz_dict]
    exact fin _ _ (fun d hd => rowT d (List.mem_reverse.mp hd)) (by rw [List.length_reverse]; omega) r
  simp only [wps, w_C, w_Var, k_Var, w_Bin, k_Bin1, k_Bin2, w_Tst, k_B, w_Chain, k_Ch1, k_Ch2, k_Ch3t, k_Ch3f, k_Ch4, w_And, w_Or, w_Not, k_Andt, k_Andf, k_Ort, k_Orf, k_Not, w_bAnd, w_bOr, w_bNot, w_bYes, k_bAndt, k_bAndf, k_bOrt, k_bOrf, k_bNot, w_dIf, k_dIft, k_dIff, w_aNil, w_aCons, k_Cons1, k_Cons2, w_Tup, w_Lst, w_Cell, k_Tup, k_Lst, k_Cell, w_Call, k_Call, w_CallF, k_CallF, w_CallN, k_CallN, k_New, k_AddN1, w_Un, k_Un, w_Sl, k_Sl1, k_Sl2, k_Sl3, w_No, w_So, k_So, w_iSeq, k_Items, w_Range1, w_Range2, k_Rng1, k_Rng2, w_iEnum, k_Enum, w_Comp, k_Comp, k_AsL, w_TupRg, w_LstRg, k_TupRg, k_LstRg, w_Rev, k_Rev, rev_tup, rev_lst, k_Di1, k_PT1, k_PT2, w_Nil, w_Nop, w_Fl, w_Seq, k_Seqn, k_Seqr, k_Seqb, k_Seqc, w_Expr, k_Drop, w_Ret, k_Ret, w_Set, k_Set, w_Asg, k_Asg1, k_Nx, w_If, k_Ift, k_Iff, w_For, k_For, k_Put1, k_Put2, w_Fun, w_Fun0, k_Funn, k_Funr, w_newK, w_newT, asB_bl, gN, gTupD, gsCons, gsNil, wipeE, itemsOf, seqItems, len_str, add_ii, sub_ii, neg_i, lt_ii, le_ii, gt_ii, ge_ii, eq_ii, ne_ii, eq_ss, ne_ss, isnot_bb, is_bb, is_non, isnot_non, isNonD, ix_tupD, ix_lstD, ix_fzD, at_lit0, at_lit1, at_lit2, at_lit3, len_fz, len_lst, len_tup, List.map_cons, List.map_nil, List.length_cons, List.length_nil, List.getElem?_cons_zero, List.getElem?_cons_succ, List.set_cons_zero, List.set_cons_succ, List.cons_append, List.nil_append, List.replicate_succ, List.replicate_zero, Nat.reduceSub, Nat.reduceAdd, Nat.reduceLeDiff, if_true, if_false, Bool.false_eq_true, Bool.true_eq_false, Bool.not_true, Bool.not_false, Option.bind_some, Option.map_some, Nat.zero_add, ite_true, ite_false, Int.cast_ofNat_Int, Int.natCast_zero, Int.natCast_one, Int.reduceLT, Int.reduceLE, Int.reduceEq, Int.reduceAdd, Int.reduceSub, Int.reduceNeg, decide_true, decide_false, true_and, and_true, le_size, add_ll, add_tt, tuple_lst, tuple_tup, list_tup, list_lst, sl_tup, sl_lst, ii_non_int, ii_non_bool, ii_non_str, ii_non_tuple, ii_non_list, ii_non_dict, ii_bl_int, ii_bl_bool, ii_bl_str, ii_bl_tuple, ii_bl_list, ii_bl_dict, ii_int_int, ii_int_bool, ii_int_str, ii_int_tuple, ii_int_list, ii_int_dict, ii_str_int, ii_str_bool, ii_str_str, ii_str_tuple, ii_str_list, ii_str_dict, ii_tup_int, ii_tup_bool, ii_tup_str, ii_tup_tuple, ii_tup_list, ii_tup_dict, ii_lst_int, ii_lst_bool, ii_lst_str, ii_lst_tuple, ii_lst_list, ii_lst_dict, ii_fz_int, ii_fz_bool, ii_fz_str, ii_fz_tuple, ii_fz_list, ii_fz_dict]
  refine k_Ifd (fun c => ?_) fun n1 => ?_
  · have B := addR S3 (cutD (stands.map tupI) none (some a)) (cutD (stands.map tupI) (some (a + 1)) none) (by omega) (by omega)
    simp only [wps, w_C, w_Var, k_Var, w_Bin, k_Bin1, k_Bin2, w_Tst, k_B, w_Chain, k_Ch1, k_Ch2, k_Ch3t, k_Ch3f, k_Ch4, w_And, w_Or, w_Not, k_Andt, k_Andf, k_Ort, k_Orf, k_Not, w_bAnd, w_bOr, w_bNot, w_bYes, k_bAndt, k_bAndf, k_bOrt, k_bOrf, k_bNot, w_dIf, k_dIft, k_dIff, w_aNil, w_aCons, k_Cons1, k_Cons2, w_Tup, w_Lst, w_Cell, k_Tup, k_Lst, k_Cell, w_Call, k_Call, w_CallF, k_CallF, w_CallN, k_CallN, k_New, k_AddN1, w_Un, k_Un, w_Sl, k_Sl1, k_Sl2, k_Sl3, w_No, w_So, k_So, w_iSeq, k_Items, w_Range1, w_Range2, k_Rng1, k_Rng2, w_iEnum, k_Enum, w_Comp, k_Comp, k_AsL, w_TupRg, w_LstRg, k_TupRg, k_LstRg, w_Rev, k_Rev, rev_tup, rev_lst, k_Di1, k_PT1, k_PT2, w_Nil, w_Nop, w_Fl, w_Seq, k_Seqn, k_Seqr, k_Seqb, k_Seqc, w_Expr, k_Drop, w_Ret, k_Ret, w_Set, k_Set, w_Asg, k_Asg1, k_Nx, w_If, k_Ift, k_Iff, w_For, k_For, k_Put1, k_Put2, w_Fun, w_Fun0, k_Funn, k_Funr, w_newK, w_newT, asB_bl, gN, gTupD, gsCons, gsNil, wipeE, itemsOf, seqItems, len_str, add_ii, sub_ii, neg_i, lt_ii, le_ii, gt_ii, ge_ii, eq_ii, ne_ii, eq_ss, ne_ss, isnot_bb, is_bb, is_non, isnot_non, isNonD, ix_tupD, ix_lstD, ix_fzD, at_lit0, at_lit1, at_lit2, at_lit3, len_fz, len_lst, len_tup, List.map_cons, List.map_nil, List.length_cons, List.length_nil, List.getElem?_cons_zero, List.getElem?_cons_succ, List.set_cons_zero, List.set_cons_succ, List.cons_append, List.nil_append, List.replicate_succ, List.replicate_zero, Nat.reduceSub, Nat.reduceAdd, Nat.reduceLeDiff, if_true, if_false, Bool.false_eq_true, Bool.true_eq_false, Bool.not_true, Bool.not_false, Option.bind_some, Option.map_some, Nat.zero_add, ite_true, ite_false, Int.cast_ofNat_Int, Int.natCast_zero, Int.natCast_one, Int.reduceLT, Int.reduceLE, Int.reduceEq, Int.reduceAdd, Int.reduceSub, Int.reduceNeg, decide_true, decide_false, true_and, and_true, le_size, add_ll, add_tt, tuple_lst, tuple_tup, list_tup, list_lst, sl_tup, sl_lst, ii_non_int, ii_non_bool, ii_non_str, ii_non_tuple, ii_non_list, ii_non_dict, ii_bl_int, ii_bl_bool, ii_bl_str, ii_bl_tuple, ii_bl_list, ii_bl_dict, ii_int_int, ii_int_bool, ii_int_str, ii_int_tuple, ii_int_list, ii_int_dict, ii_str_int, ii_str_bool, ii_str_str, ii_str_tuple, ii_str_list, ii_str_dict, ii_tup_int, ii_tup_bool, ii_tup_str, ii_tup_tuple, ii_tup_list, ii_tup_dict, ii_lst_int, ii_lst_bool, ii_lst_str, ii_lst_tuple, ii_lst_list, ii_lst_dict, ii_fz_int, ii_fz_bool, ii_fz_str, ii_fz_tuple, ii_fz_list, ii_fz_dict, B]
    exact fin _ _ (fun d hd => (List.mem_append.mp hd).elim (fun z => rowT d (cutD_sub z)) fun z => rowT d (cutD_sub z)) (by rw [List.length_append]; omega) r
  simp only [wps, w_C, w_Var, k_Var, w_Bin, k_Bin1, k_Bin2, w_Tst, k_B, w_Chain, k_Ch1, k_Ch2, k_Ch3t, k_Ch3f, k_Ch4, w_And, w_Or, w_Not, k_Andt, k_Andf, k_Ort, k_Orf, k_Not, w_bAnd, w_bOr, w_bNot, w_bYes, k_bAndt, k_bAndf, k_bOrt, k_bOrf, k_bNot, w_dIf, k_dIft, k_dIff, w_aNil, w_aCons, k_Cons1, k_Cons2, w_Tup, w_Lst, w_Cell, k_Tup, k_Lst, k_Cell, w_Call, k_Call, w_CallF, k_CallF, w_CallN, k_CallN, k_New, k_AddN1, w_Un, k_Un, w_Sl, k_Sl1, k_Sl2, k_Sl3, w_No, w_So, k_So, w_iSeq, k_Items, w_Range1, w_Range2, k_Rng1, k_Rng2, w_iEnum, k_Enum, w_Comp, k_Comp, k_AsL, w_TupRg, w_LstRg, k_TupRg, k_LstRg, w_Rev, k_Rev, rev_tup, rev_lst, k_Di1, k_PT1, k_PT2, w_Nil, w_Nop, w_Fl, w_Seq, k_Seqn, k_Seqr, k_Seqb, k_Seqc, w_Expr, k_Drop, w_Ret, k_Ret, w_Set, k_Set, w_Asg, k_Asg1, k_Nx, w_If, k_Ift, k_Iff, w_For, k_For, k_Put1, k_Put2, w_Fun, w_Fun0, k_Funn, k_Funr, w_newK, w_newT, asB_bl, gN, gTupD, gsCons, gsNil, wipeE, itemsOf, seqItems, len_str, add_ii, sub_ii, neg_i, lt_ii, le_ii, gt_ii, ge_ii, eq_ii, ne_ii, eq_ss, ne_ss, isnot_bb, is_bb, is_non, isnot_non, isNonD, ix_tupD, ix_lstD, ix_fzD, at_lit0, at_lit1, at_lit2, at_lit3, len_fz, len_lst, len_tup, List.map_cons, List.map_nil, List.length_cons, List.length_nil, List.getElem?_cons_zero, List.getElem?_cons_succ, List.set_cons_zero, List.set_cons_succ, List.cons_append, List.nil_append, List.replicate_succ, List.replicate_zero, Nat.reduceSub, Nat.reduceAdd, Nat.reduceLeDiff, if_true, if_false, Bool.false_eq_true, Bool.true_eq_false, Bool.not_true, Bool.not_false, Option.bind_some, Option.map_some, Nat.zero_add, ite_true, ite_false, Int.cast_ofNat_Int, Int.natCast_zero, Int.natCast_one, Int.reduceLT, Int.reduceLE, Int.reduceEq, Int.reduceAdd, Int.reduceSub, Int.reduceNeg, decide_true, decide_false, true_and, and_true, le_size, add_ll, add_tt, tuple_lst, tuple_tup, list_tup, list_lst, sl_tup, sl_lst, ii_non_int, ii_non_bool, ii_non_str, ii_non_tuple, ii_non_list, ii_non_dict, ii_bl_int, ii_bl_bool, ii_bl_str, ii_bl_tuple, ii_bl_list, ii_bl_dict, ii_int_int, ii_int_bool, ii_int_str, ii_int_tuple, ii_int_list, ii_int_dict, ii_str_int, ii_str_bool, ii_str_str, ii_str_tuple, ii_str_list, ii_str_dict, ii_tup_int, ii_tup_bool, ii_tup_str, ii_tup_tuple, ii_tup_list, ii_tup_dict, ii_lst_int, ii_lst_bool, ii_lst_str, ii_lst_tuple, ii_lst_list, ii_lst_dict, ii_fz_int, ii_fz_bool, ii_fz_str, ii_fz_tuple, ii_fz_list, ii_fz_dict]
  refine k_Ifd (fun c => ?_) fun n2 => ?_
  · have B := addR S3 (stands.map tupI) [.tup (s.map D.int)] (by omega) (by show 1 ≤ 3500; decide)
    simp only [wps, w_C, w_Var, k_Var, w_Bin, k_Bin1, k_Bin2, w_Tst, k_B, w_Chain, k_Ch1, k_Ch2, k_Ch3t, k_Ch3f, k_Ch4, w_And, w_Or, w_Not, k_Andt, k_Andf, k_Ort, k_Orf, k_Not, w_bAnd, w_bOr, w_bNot, w_bYes, k_bAndt, k_bAndf, k_bOrt, k_bOrf, k_bNot, w_dIf, k_dIft, k_dIff, w_aNil, w_aCons, k_Cons1, k_Cons2, w_Tup, w_Lst, w_Cell, k_Tup, k_Lst, k_Cell, w_Call, k_Call, w_CallF, k_CallF, w_CallN, k_CallN, k_New, k_AddN1, w_Un, k_Un, w_Sl, k_Sl1, k_Sl2, k_Sl3, w_No, w_So, k_So, w_iSeq, k_Items, w_Range1, w_Range2, k_Rng1, k_Rng2, w_iEnum, k_Enum, w_Comp, k_Comp, k_AsL, w_TupRg, w_LstRg, k_TupRg, k_LstRg, w_Rev, k_Rev, rev_tup, rev_lst, k_Di1, k_PT1, k_PT2, w_Nil, w_Nop, w_Fl, w_Seq, k_Seqn, k_Seqr, k_Seqb, k_Seqc, w_Expr, k_Drop, w_Ret, k_Ret, w_Set, k_Set, w_Asg, k_Asg1, k_Nx, w_If, k_Ift, k_Iff, w_For, k_For, k_Put1, k_Put2, w_Fun, w_Fun0, k_Funn, k_Funr, w_newK, w_newT, asB_bl, gN, gTupD, gsCons, gsNil, wipeE, itemsOf, seqItems, len_str, add_ii, sub_ii, neg_i, lt_ii, le_ii, gt_ii, ge_ii, eq_ii, ne_ii, eq_ss, ne_ss, isnot_bb, is_bb, is_non, isnot_non, isNonD, ix_tupD, ix_lstD, ix_fzD, at_lit0, at_lit1, at_lit2, at_lit3, len_fz, len_lst, len_tup, List.map_cons, List.map_nil, List.length_cons, List.length_nil, List.getElem?_cons_zero, List.getElem?_cons_succ, List.set_cons_zero, List.set_cons_succ, List.cons_append, List.nil_append, List.replicate_succ, List.replicate_zero, Nat.reduceSub, Nat.reduceAdd, Nat.reduceLeDiff, if_true, if_false, Bool.false_eq_true, Bool.true_eq_false, Bool.not_true, Bool.not_false, Option.bind_some, Option.map_some, Nat.zero_add, ite_true, ite_false, Int.cast_ofNat_Int, Int.natCast_zero, Int.natCast_one, Int.reduceLT, Int.reduceLE, Int.reduceEq, Int.reduceAdd, Int.reduceSub, Int.reduceNeg, decide_true, decide_false, true_and, and_true, le_size, add_ll, add_tt, tuple_lst, tuple_tup, list_tup, list_lst, sl_tup, sl_lst, ii_non_int, ii_non_bool, ii_non_str, ii_non_tuple, ii_non_list, ii_non_dict, ii_bl_int, ii_bl_bool, ii_bl_str, ii_bl_tuple, ii_bl_list, ii_bl_dict, ii_int_int, ii_int_bool, ii_int_str, ii_int_tuple, ii_int_list, ii_int_dict, ii_str_int, ii_str_bool, ii_str_str, ii_str_tuple, ii_str_list, ii_str_dict, ii_tup_int, ii_tup_bool, ii_tup_str, ii_tup_tuple, ii_tup_list, ii_tup_dict, ii_lst_int, ii_lst_bool, ii_lst_str, ii_lst_tuple, ii_lst_list, ii_lst_dict, ii_fz_int, ii_fz_bool, ii_fz_str, ii_fz_tuple, ii_fz_list, ii_fz_dict, B]
    exact fin _ _ (fun d hd => (List.mem_append.mp hd).elim (fun z => rowT d z) fun z => by rw [List.mem_singleton.mp z]; exact ts) (by rw [List.length_append]; show _ + 1 ≤ 7000; omega) r
  simp only [wps, w_C, w_Var, k_Var, w_Bin, k_Bin1, k_Bin2, w_Tst, k_B, w_Chain, k_Ch1, k_Ch2, k_Ch3t, k_Ch3f, k_Ch4, w_And, w_Or, w_Not, k_Andt, k_Andf, k_Ort, k_Orf, k_Not, w_bAnd, w_bOr, w_bNot, w_bYes, k_bAndt, k_bAndf, k_bOrt, k_bOrf, k_bNot, w_dIf, k_dIft, k_dIff, w_aNil, w_aCons, k_Cons1, k_Cons2, w_Tup, w_Lst, w_Cell, k_Tup, k_Lst, k_Cell, w_Call, k_Call, w_CallF, k_CallF, w_CallN, k_CallN, k_New, k_AddN1, w_Un, k_Un, w_Sl, k_Sl1, k_Sl2, k_Sl3, w_No, w_So, k_So, w_iSeq, k_Items, w_Range1, w_Range2, k_Rng1, k_Rng2, w_iEnum, k_Enum, w_Comp, k_Comp, k_AsL, w_TupRg, w_LstRg, k_TupRg, k_LstRg, w_Rev, k_Rev, rev_tup, rev_lst, k_Di1, k_PT1, k_PT2, w_Nil, w_Nop, w_Fl, w_Seq, k_Seqn, k_Seqr, k_Seqb, k_Seqc, w_Expr, k_Drop, w_Ret, k_Ret, w_Set, k_Set, w_Asg, k_Asg1, k_Nx, w_If, k_Ift, k_Iff, w_For, k_For, k_Put1, k_Put2, w_Fun, w_Fun0, k_Funn, k_Funr, w_newK, w_newT, asB_bl, gN, gTupD, gsCons, gsNil, wipeE, itemsOf, seqItems, len_str, add_ii, sub_ii, neg_i, lt_ii, le_ii, gt_ii, ge_ii, eq_ii, ne_ii, eq_ss, ne_ss, isnot_bb, is_bb, is_non, isnot_non, isNonD, ix_tupD, ix_lstD, ix_fzD, at_lit0, at_lit1, at_lit2, at_lit3, len_fz, len_lst, len_tup, List.map_cons, List.map_nil, List.length_cons, List.length_nil, List.getElem?_cons_zero, List.getElem?_cons_succ, List.set_cons_zero, List.set_cons_succ, List.cons_append, List.nil_append, List.replicate_succ, List.replicate_zero, Nat.reduceSub, Nat.reduceAdd, Nat.reduceLeDiff, if_true, if_false, Bool.false_eq_true, Bool.true_eq_false, Bool.not_true, Bool.not_false, Option.bind_some, Option.map_some, Nat.zero_add, ite_true, ite_false, Int.cast_ofNat_Int, Int.natCast_zero, Int.natCast_one, Int.reduceLT, Int.reduceLE, Int.reduceEq, Int.reduceAdd, Int.reduceSub, Int.reduceNeg, decide_true, decide_false, true_and, and_true, le_size, add_ll, add_tt, tuple_lst, tuple_tup, list_tup, list_lst, sl_tup, sl_lst, ii_non_int, ii_non_bool, ii_non_str, ii_non_tuple, ii_non_list, ii_non_dict, ii_bl_int, ii_bl_bool, ii_bl_str, ii_bl_tuple, ii_bl_list, ii_bl_dict, ii_int_int, ii_int_bool, ii_int_str, ii_int_tuple, ii_int_list, ii_int_dict, ii_str_int, ii_str_bool, ii_str_str, ii_str_tuple, ii_str_list, ii_str_dict, ii_tup_int, ii_tup_bool, ii_tup_str, ii_tup_tuple, ii_tup_list, ii_tup_dict, ii_lst_int, ii_lst_bool, ii_lst_str, ii_lst_tuple, ii_lst_list, ii_lst_dict, ii_fz_int, ii_fz_bool, ii_fz_str, ii_fz_tuple, ii_fz_list, ii_fz_dict]
  refine k_Ifd (fun c => ?_) fun n3 => ?_
  · simp only [wps, w_C, w_Var, k_Var, w_Bin, k_Bin1, k_Bin2, w_Tst, k_B, w_Chain, k_Ch1, k_Ch2, k_Ch3t, k_Ch3f, k_Ch4, w_And, w_Or, w_Not, k_Andt, k_Andf, k_Ort, k_Orf, k_Not, w_bAnd, w_bOr, w_bNot, w_bYes, k_bAndt, k_bAndf, k_bOrt, k_bOrf, k_bNot, w_dIf, k_dIft, k_dIff, w_aNil, w_aCons, k_Cons1, k_Cons2, w_Tup, w_Lst, w_Cell, k_Tup, k_Lst, k_Cell, w_Call, k_Call, w_CallF, k_CallF, w_CallN, k_CallN, k_New, k_AddN1, w_Un, k_Un, w_Sl, k_Sl1, k_Sl2, k_Sl3, w_No, w_So, k_So, w_iSeq, k_Items, w_Range1, w_Range2, k_Rng1, k_Rng2, w_iEnum, k_Enum, w_Comp, k_Comp, k_AsL, w_TupRg, w_LstRg, k_TupRg, k_LstRg, w_Rev, k_Rev, rev_tup, rev_lst, k_Di1, k_PT1, k_PT2, w_Nil, w_Nop, w_Fl, w_Seq, k_Seqn, k_Seqr, k_Seqb, k_Seqc, w_Expr, k_Drop, w_Ret, k_Ret, w_Set, k_Set, w_Asg, k_Asg1, k_Nx, w_If, k_Ift, k_Iff, w_For, k_For, k_Put1, k_Put2, w_Fun, w_Fun0, k_Funn, k_Funr, w_newK, w_newT, asB_bl, gN, gTupD, gsCons, gsNil, wipeE, itemsOf, seqItems, len_str, add_ii, sub_ii, neg_i, lt_ii, le_ii, gt_ii, ge_ii, eq_ii, ne_ii, eq_ss, ne_ss, isnot_bb, is_bb, is_non, isnot_non, isNonD, ix_tupD, ix_lstD, ix_fzD, at_lit0, at_lit1, at_lit2, at_lit3, len_fz, len_lst, len_tup, List.map_cons, List.map_nil, List.length_cons, List.length_nil, List.getElem?_cons_zero, List.getElem?_cons_succ, List.set_cons_zero, List.set_cons_succ, List.cons_append, List.nil_append, List.replicate_succ, List.replicate_zero, Nat.reduceSub, Nat.reduceAdd, Nat.reduceLeDiff, if_true, if_false, Bool.false_eq_true, Bool.true_eq_false, Bool.not_true, Bool.not_false, Option.bind_some, Option.map_some, Nat.zero_add, ite_true, ite_false, Int.cast_ofNat_Int, Int.natCast_zero, Int.natCast_one, Int.reduceLT, Int.reduceLE, Int.reduceEq, Int.reduceAdd, Int.reduceSub, Int.reduceNeg, decide_true, decide_false, true_and, and_true, le_size, add_ll, add_tt, tuple_lst, tuple_tup, list_tup, list_lst, sl_tup, sl_lst, ii_non_int, ii_non_bool, ii_non_str, ii_non_tuple, ii_non_list, ii_non_dict, ii_bl_int, ii_bl_bool, ii_bl_str, ii_bl_tuple, ii_bl_list, ii_bl_dict, ii_int_int, ii_int_bool, ii_int_str, ii_int_tuple, ii_int_list, ii_int_dict, ii_str_int, ii_str_bool, ii_str_str, ii_str_tuple, ii_str_list, ii_str_dict, ii_tup_int, ii_tup_bool, ii_tup_str, ii_tup_tuple, ii_tup_list, ii_tup_dict, ii_lst_int, ii_lst_bool, ii_lst_str, ii_lst_tuple, ii_lst_list, ii_lst_dict, ii_fz_int, ii_fz_bool, ii_fz_str, ii_fz_tuple, ii_fz_list, ii_fz_dict]
    exact fin _ _ (fun d hd => rowT d (cutD_sub hd)) (by omega) r
  simp only [wps, w_C, w_Var, k_Var, w_Bin, k_Bin1, k_Bin2, w_Tst, k_B, w_Chain, k_Ch1, k_Ch2, k_Ch3t, k_Ch3f, k_Ch4, w_And, w_Or, w_Not, k_Andt, k_Andf, k_Ort, k_Orf, k_Not, w_bAnd, w_bOr, w_bNot, w_bYes, k_bAndt, k_bAndf, k_bOrt, k_bOrf, k_bNot, w_dIf, k_dIft, k_dIff, w_aNil, w_aCons, k_Cons1, k_Cons2, w_Tup, w_Lst, w_Cell, k_Tup, k_Lst, k_Cell, w_Call, k_Call, w_CallF, k_CallF, w_CallN, k_CallN, k_New, k_AddN1, w_Un, k_Un, w_Sl, k_Sl1, k_Sl2, k_Sl3, w_No, w_So, k_So, w_iSeq, k_Items, w_Range1, w_Range2, k_Rng1, k_Rng2, w_iEnum, k_Enum, w_Comp, k_Comp, k_AsL, w_TupRg, w_LstRg, k_TupRg, k_LstRg, w_Rev, k_Rev, rev_tup, rev_lst, k_Di1, k_PT1, k_PT2, w_Nil, w_Nop, w_Fl, w_Seq, k_Seqn, k_Seqr, k_Seqb, k_Seqc, w_Expr, k_Drop, w_Ret, k_Ret, w_Set, k_Set, w_Asg, k_Asg1, k_Nx, w_If, k_Ift, k_Iff, w_For, k_For, k_Put1, k_Put2, w_Fun, w_Fun0, k_Funn, k_Funr, w_newK, w_newT, asB_bl, gN, gTupD, gsCons, gsNil, wipeE, itemsOf, seqItems, len_str, add_ii, sub_ii, neg_i, lt_ii, le_ii, gt_ii, ge_ii, eq_ii, ne_ii, eq_ss, ne_ss, isnot_bb, is_bb, is_non, isnot_non, isNonD, ix_tupD, ix_lstD, ix_fzD, at_lit0, at_lit1, at_lit2, at_lit3, len_fz, len_lst, len_tup, List.map_cons, List.map_nil, List.length_cons, List.length_nil, List.getElem?_cons_zero, List.getElem?_cons_succ, List.set_cons_zero, List.set_cons_succ, List.cons_append, List.nil_append, List.replicate_succ, List.replicate_zero, Nat.reduceSub, Nat.reduceAdd, Nat.reduceLeDiff, if_true, if_false, Bool.false_eq_true, Bool.true_eq_false, Bool.not_true, Bool.not_false, Option.bind_some, Option.map_some, Nat.zero_add, ite_true, ite_false, Int.cast_ofNat_Int, Int.natCast_zero, Int.natCast_one, Int.reduceLT, Int.reduceLE, Int.reduceEq, Int.reduceAdd, Int.reduceSub, Int.reduceNeg, decide_true, decide_false, true_and, and_true, le_size, add_ll, add_tt, tuple_lst, tuple_tup, list_tup, list_lst, sl_tup, sl_lst, ii_non_int, ii_non_bool, ii_non_str, ii_non_tuple, ii_non_list, ii_non_dict, ii_bl_int, ii_bl_bool, ii_bl_str, ii_bl_tuple, ii_bl_list, ii_bl_dict, ii_int_int, ii_int_bool, ii_int_str, ii_int_tuple, ii_int_list, ii_int_dict, ii_str_int, ii_str_bool, ii_str_str, ii_str_tuple, ii_str_list, ii_str_dict, ii_tup_int, ii_tup_bool, ii_tup_str, ii_tup_tuple, ii_tup_list, ii_tup_dict, ii_lst_int, ii_lst_bool, ii_lst_str, ii_lst_tuple, ii_lst_list, ii_lst_dict, ii_fz_int, ii_fz_bool, ii_fz_str, ii_fz_tuple, ii_fz_list, ii_fz_dict]
  obtain ⟨x, ex⟩ : ∃ x, x = s[h.toNat]'(by omega) := ⟨_, rfl⟩
  have hx0 : 0 ≤ x ∧ x ≤ 4 := by rw [ex]; exact hse.2 _ (List.getElem_mem _)
  refine k_Ifd (fun c => ?_) fun n4 => ?_
  · simp only [wps, w_C, w_Var, k_Var, w_Bin, k_Bin1, k_Bin2, w_Tst, k_B, w_Chain, k_Ch1, k_Ch2, k_Ch3t, k_Ch3f, k_Ch4, w_And, w_Or, w_Not, k_Andt, k_Andf, k_Ort, k_Orf, k_Not, w_bAnd, w_bOr, w_bNot, w_bYes, k_bAndt, k_bAndf, k_bOrt, k_bOrf, k_bNot, w_dIf, k_dIft, k_dIff, w_aNil, w_aCons, k_Cons1, k_Cons2, w_Tup, w_Lst, w_Cell, k_Tup, k_Lst, k_Cell, w_Call, k_Call, w_CallF, k_CallF, w_CallN, k_CallN, k_New, k_AddN1, w_Un, k_Un, w_Sl, k_Sl1, k_Sl2, k_Sl3, w_No, w_So, k_So, w_iSeq, k_Items, w_Range1, w_Range2, k_Rng1, k_Rng2, w_iEnum, k_Enum, w_Comp, k_Comp, k_AsL, w_TupRg, w_LstRg, k_TupRg, k_LstRg, w_Rev, k_Rev, rev_tup, rev_lst, k_Di1, k_PT1, k_PT2, w_Nil, w_Nop, w_Fl, w_Seq, k_Seqn, k_Seqr, k_Seqb, k_Seqc, w_Expr, k_Drop, w_Ret, k_Ret, w_Set, k_Set, w_Asg, k_Asg1, k_Nx, w_If, k_Ift, k_Iff, w_For, k_For, k_Put1, k_Put2, w_Fun, w_Fun0, k_Funn, k_Funr, w_newK, w_newT, asB_bl, gN, gTupD, gsCons, gsNil, wipeE, itemsOf, seqItems, len_str, add_ii, sub_ii, neg_i, lt_ii, le_ii, gt_ii, ge_ii, eq_ii, ne_ii, eq_ss, ne_ss, isnot_bb, is_bb, is_non, isnot_non, isNonD, ix_tupD, ix_lstD, ix_fzD, at_lit0, at_lit1, at_lit2, at_lit3, len_fz, len_lst, len_tup, List.map_cons, List.map_nil, List.length_cons, List.length_nil, List.getElem?_cons_zero, List.getElem?_cons_succ, List.set_cons_zero, List.set_cons_succ, List.cons_append, List.nil_append, List.replicate_succ, List.replicate_zero, Nat.reduceSub, Nat.reduceAdd, Nat.reduceLeDiff, if_true, if_false, Bool.false_eq_true, Bool.true_eq_false, Bool.not_true, Bool.not_false, Option.bind_some, Option.map_some, Nat.zero_add, ite_true, ite_false, Int.cast_ofNat_Int, Int.natCast_zero, Int.natCast_one, Int.reduceLT, Int.reduceLE, Int.reduceEq, Int.reduceAdd, Int.reduceSub, Int.reduceNeg, decide_true, decide_false, true_and, and_true, le_size, add_ll, add_tt, tuple_lst, tuple_tup, list_tup, list_lst, sl_tup, sl_lst, ii_non_int, ii_non_bool, ii_non_str, ii_non_tuple, ii_non_list, ii_non_dict, ii_bl_int, ii_bl_bool, ii_bl_str, ii_bl_tuple, ii_bl_list, ii_bl_dict, ii_int_int, ii_int_bool, ii_int_str, ii_int_tuple, ii_int_list, ii_int_dict, ii_str_int, ii_str_bool, ii_str_str, ii_str_tuple, ii_str_list, ii_str_dict, ii_tup_int, ii_tup_bool, ii_tup_str, ii_tup_tuple, ii_tup_list, ii_tup_dict, ii_lst_int, ii_lst_bool, ii_lst_str, ii_lst_tuple, ii_lst_list, ii_lst_dict, ii_fz_int, ii_fz_bool, ii_fz_str, ii_fz_tuple, ii_fz_list, ii_fz_dict, ← ex]
    refine compGo_pure (fun d => .int (if asIntD d < 4 then asIntD d else 4)) (by rw [List.length_map, lenx, sizeLine_eq]; omega) (fun d hd => ?_) ?_
    · obtain ⟨c, hc, e⟩ := List.mem_map.mp hd
      subst e
      refine ⟨_, rfl, ?_⟩
      simp only [wps, w_C, w_Var, k_Var, w_Bin, k_Bin1, k_Bin2, w_Tst, k_B, w_Chain, k_Ch1, k_Ch2, k_Ch3t, k_Ch3f, k_Ch4, w_And, w_Or, w_Not, k_Andt, k_Andf, k_Ort, k_Orf, k_Not, w_bAnd, w_bOr, w_bNot, w_bYes, k_bAndt, k_bAndf, k_bOrt, k_bOrf, k_bNot, w_dIf, k_dIft, k_dIff, w_aNil, w_aCons, k_Cons1, k_Cons2, w_Tup, w_Lst, w_Cell, k_Tup, k_Lst, k_Cell, w_Call, k_Call, w_CallF, k_CallF, w_CallN, k_CallN, k_New, k_AddN1, w_Un, k_Un, w_Sl, k_Sl1, k_Sl2, k_Sl3, w_No, w_So, k_So, w_iSeq, k_Items, w_Range1, w_Range2, k_Rng1, k_Rng2, w_iEnum, k_Enum, w_Comp, k_Comp, k_AsL, w_TupRg, w_LstRg, k_TupRg, k_LstRg, w_Rev, k_Rev, rev_tup, rev_lst, k_Di1, k_PT1, k_PT2, w_Nil, w_Nop, w_Fl, w_Seq, k_Seqn, k_Seqr, k_Seqb, k_Seqc, w_Expr, k_Drop, w_Ret, k_Ret, w_Set, k_Set, w_Asg, k_Asg1, k_Nx, w_If, k_Ift, k_Iff, w_For, k_For, k_Put1, k_Put2, w_Fun, w_Fun0, k_Funn, k_Funr, w_newK, w_newT, asB_bl, gN, gTupD, gsCons, gsNil, wipeE, itemsOf, seqItems, len_str, add_ii, sub_ii, neg_i, lt_ii, le_ii, gt_ii, ge_ii, eq_ii, ne_ii, eq_ss, ne_ss, isnot_bb, is_bb, is_non, isnot_non, isNonD, ix_tupD, ix_lstD, ix_fzD, at_lit0, at_lit1, at_lit2, at_lit3, len_fz, len_lst, len_tup, List.map_cons, List.map_nil, List.length_cons, List.length_nil, List.getElem?_cons_zero, List.getElem?_cons_succ, List.set_cons_zero, List.set_cons_succ, List.cons_append, List.nil_append, List.replicate_succ, List.replicate_zero, Nat.reduceSub, Nat.reduceAdd, Nat.reduceLeDiff, if_true, if_false, Bool.false_eq_true, Bool.true_eq_false, Bool.not_true, Bool.not_false, Option.bind_some, Option.map_some, Nat.zero_add, ite_true, ite_false, Int.cast_ofNat_Int, Int.natCast_zero, Int.natCast_one, Int.reduceLT, Int.reduceLE, Int.reduceEq, Int.reduceAdd, Int.reduceSub, Int.reduceNeg, decide_true, decide_false, true_and, and_true, le_size, add_ll, add_tt, tuple_lst, tuple_tup, list_tup, list_lst, sl_tup, sl_lst, ii_non_int, ii_non_bool, ii_non_str, ii_non_tuple, ii_non_list, ii_non_dict, ii_bl_int, ii_bl_bool, ii_bl_str, ii_bl_tuple, ii_bl_list, ii_bl_dict, ii_int_int, ii_int_bool, ii_int_str, ii_int_tuple, ii_int_list, ii_int_dict, ii_str_int, ii_str_bool, ii_str_str, ii_str_tuple, ii_str_list, ii_str_dict, ii_tup_int, ii_tup_bool, ii_tup_str, ii_tup_tuple, ii_tup_list, ii_tup_dict, ii_lst_int, ii_lst_bool, ii_lst_str, ii_lst_tuple, ii_lst_list, ii_lst_dict, ii_fz_int, ii_fz_bool, ii_fz_str, ii_fz_tuple, ii_fz_list, ii_fz_dict, minD]
      rfl
    · obtain ⟨mo, emo⟩ : ∃ mo, mo = s.take h.toNat ++ [x + 1] ++ s.drop (h + 1).toNat := ⟨_, rfl⟩
      rw [← emo]
      have e1 : (mo.map D.int).map (fun d => D.int (if asIntD d < 4 then asIntD d else 4)) = (mo.map fun c => if c < 4 then c else 4).map D.int := by rw [List.map_map, List.map_map]; rfl
      rw [e1]
      have hE : Ent (mo.map fun c => if c < 4 then c else 4).length (mo.map fun c => if c < 4 then c else 4) := by
        refine ⟨rfl, fun c hc => ?_⟩
        obtain ⟨y, hy, ey⟩ := List.mem_map.mp hc
        have hy0 : 0 ≤ y := by
          rw [emo] at hy
          rcases List.mem_append.mp hy with z | z
          · rcases List.mem_append.mp z with z | z
            · exact (hse.2 y (List.mem_of_mem_take z)).1
            · rw [List.mem_singleton.mp z]; omega
          · exact (hse.2 y (List.mem_of_mem_drop z)).1
        subst ey
        split <;> omega
      simp only [wps, w_C, w_Var, k_Var, w_Bin, k_Bin1, k_Bin2, w_Tst, k_B, w_Chain, k_Ch1, k_Ch2, k_Ch3t, k_Ch3f, k_Ch4, w_And, w_Or, w_Not, k_Andt, k_Andf, k_Ort, k_Orf, k_Not, w_bAnd, w_bOr, w_bNot, w_bYes, k_bAndt, k_bAndf, k_bOrt, k_bOrf, k_bNot, w_dIf, k_dIft, k_dIff, w_aNil, w_aCons, k_Cons1, k_Cons2, w_Tup, w_Lst, w_Cell, k_Tup, k_Lst, k_Cell, w_Call, k_Call, w_CallF, k_CallF, w_CallN, k_CallN, k_New, k_AddN1, w_Un, k_Un, w_Sl, k_Sl1, k_Sl2, k_Sl3, w_No, w_So, k_So, w_iSeq, k_Items, w_Range1, w_Range2, k_Rng1, k_Rng2, w_iEnum, k_Enum, w_Comp, k_Comp, k_AsL, w_TupRg, w_LstRg, k_TupRg, k_LstRg, w_Rev, k_Rev, rev_tup, rev_lst, k_Di1, k_PT1, k_PT2, w_Nil, w_Nop, w_Fl, w_Seq, k_Seqn, k_Seqr, k_Seqb, k_Seqc, w_Expr, k_Drop, w_Ret, k_Ret, w_Set, k_Set, w_Asg, k_Asg1, k_Nx, w_If, k_Ift, k_Iff, w_For, k_For, k_Put1, k_Put2, w_Fun, w_Fun0, k_Funn, k_Funr, w_newK, w_newT, asB_bl, gN, gTupD, gsCons, gsNil, wipeE, itemsOf, seqItems, len_str, add_ii, sub_ii, neg_i, lt_ii, le_ii, gt_ii, ge_ii, eq_ii, ne_ii, eq_ss, ne_ss, isnot_bb, is_bb, is_non, isnot_non, isNonD, ix_tupD, ix_lstD, ix_fzD, at_lit0, at_lit1, at_lit2, at_lit3, len_fz, len_lst, len_tup, List.map_cons, List.map_nil, List.length_cons, List.length_nil, List.getElem?_cons_zero, List.getElem?_cons_succ, List.set_cons_zero, List.set_cons_succ, List.cons_append, List.nil_append, List.replicate_succ, List.replicate_zero, Nat.reduceSub, Nat.reduceAdd, Nat.reduceLeDiff, if_true, if_false, Bool.false_eq_true, Bool.true_eq_false, Bool.not_true, Bool.not_false, Option.bind_some, Option.map_some, Nat.zero_add, ite_true, ite_false, Int.cast_ofNat_Int, Int.natCast_zero, Int.natCast_one, Int.reduceLT, Int.reduceLE, Int.reduceEq, Int.reduceAdd, Int.reduceSub, Int.reduceNeg, decide_true, decide_false, true_and, and_true, le_size, add_ll, add_tt, tuple_lst, tuple_tup, list_tup, list_lst, sl_tup, sl_lst, ii_non_int, ii_non_bool, ii_non_str, ii_non_tuple, ii_non_list, ii_non_dict, ii_bl_int, ii_bl_bool, ii_bl_str, ii_bl_tuple, ii_bl_list, ii_bl_dict, ii_int_int, ii_int_bool, ii_int_str, ii_int_tuple, ii_int_list, ii_int_dict, ii_str_int, ii_str_bool, ii_str_str, ii_str_tuple, ii_str_list, ii_str_dict, ii_tup_int, ii_tup_bool, ii_tup_str, ii_tup_tuple, ii_tup_list, ii_tup_dict, ii_lst_int, ii_lst_bool, ii_lst_str, ii_lst_tuple, ii_lst_list, ii_lst_dict, ii_fz_int, ii_fz_bool, ii_fz_str, ii_fz_tuple, ii_fz_list, ii_fz_dict]
      refine search_wp hk (by rw [List.length_map, emo, lenx]; exact hc5) hE fun q kvs dep S4 hsr => ?_
      have hrS := r.trans (hsr.kx.dr r.dk)
      have hsm := hsr.ok.small (by rw [List.length_map, emo, lenx]; exact hc5)
      simp only [wps, w_C, w_Var, k_Var, w_Bin, k_Bin1, k_Bin2, w_Tst, k_B, w_Chain, k_Ch1, k_Ch2, k_Ch3t, k_Ch3f, k_Ch4, w_And, w_Or, w_Not, k_Andt, k_Andf, k_Ort, k_Orf, k_Not, w_bAnd, w_bOr, w_bNot, w_bYes, k_bAndt, k_bAndf, k_bOrt, k_bOrf, k_bNot, w_dIf, k_dIft, k_dIff, w_aNil, w_aCons, k_Cons1, k_Cons2, w_Tup, w_Lst, w_Cell, k_Tup, k_Lst, k_Cell, w_Call, k_Call, w_CallF, k_CallF, w_CallN, k_CallN, k_New, k_AddN1, w_Un, k_Un, w_Sl, k_Sl1, k_Sl2, k_Sl3, w_No, w_So, k_So, w_iSeq, k_Items, w_Range1, w_Range2, k_Rng1, k_Rng2, w_iEnum, k_Enum, w_Comp, k_Comp, k_AsL, w_TupRg, w_LstRg, k_TupRg, k_LstRg, w_Rev, k_Rev, rev_tup, rev_lst, k_Di1, k_PT1, k_PT2, w_Nil, w_Nop, w_Fl, w_Seq, k_Seqn, k_Seqr, k_Seqb, k_Seqc, w_Expr, k_Drop, w_Ret, k_Ret, w_Set, k_Set, w_Asg, k_Asg1, k_Nx, w_If, k_Ift, k_Iff, w_For, k_For, k_Put1, k_Put2, w_Fun, w_Fun0, k_Funn, k_Funr, w_newK, w_newT, asB_bl, gN, gTupD, gsCons, gsNil, wipeE, itemsOf, seqItems, len_str, add_ii, sub_ii, neg_i, lt_ii, le_ii, gt_ii, ge_ii, eq_ii, ne_ii, eq_ss, ne_ss, isnot_bb, is_bb, is_non, isnot_non, isNonD, ix_tupD, ix_lstD, ix_fzD, at_lit0, at_lit1, at_lit2, at_lit3, len_fz, len_lst, len_tup, List.map_cons, List.map_nil, List.length_cons, List.length_nil, List.getElem?_cons_zero, List.getElem?_cons_succ, List.set_cons_zero, List.set_cons_succ, List.cons_append, List.nil_append, List.replicate_succ, List.replicate_zero, Nat.reduceSub, Nat.reduceAdd, Nat.reduceLeDiff, if_true, if_false, Bool.false_eq_true, Bool.true_eq_false, Bool.not_true, Bool.not_false, Option.bind_some, Option.map_some, Nat.zero_add, ite_true, ite_false, Int.cast_ofNat_Int, Int.natCast_zero, Int.natCast_one, Int.reduceLT, Int.reduceLE, Int.reduceEq, Int.reduceAdd, Int.reduceSub, Int.reduceNeg, decide_true, decide_false, true_and, and_true, le_size, add_ll, add_tt, tuple_lst, tuple_tup, list_tup, list_lst, sl_tup, sl_lst, ii_non_int, ii_non_bool, ii_non_str, ii_non_tuple, ii_non_list, ii_non_dict, ii_bl_int, ii_bl_bool, ii_bl_str, ii_bl_tuple, ii_bl_list, ii_bl_dict, ii_int_int, ii_int_bool, ii_int_str, ii_int_tuple, ii_int_list, ii_int_dict, ii_str_int, ii_str_bool, ii_str_str, ii_str_tuple, ii_str_list, ii_str_dict, ii_tup_int, ii_tup_bool, ii_tup_str, ii_tup_tuple, ii_tup_list, ii_tup_dict, ii_lst_int, ii_lst_bool, ii_lst_str, ii_lst_tuple, ii_lst_list, ii_lst_dict, ii_fz_int, ii_fz_bool, ii_fz_str, ii_fz_tuple, ii_fz_list, ii_fz_dict, listT_I hsr.tab]
      refine compGo_filter (fun d => !decide (d ∈ stands.map tupI)) id (by rw [List.length_map, List.length_map, sizeLine_eq]; omega) (fun d hd => ?_) ?_
      · obtain ⟨y, hy, e⟩ := List.mem_map.mp hd
        subst e
        have hin : oIn true S4 (tupI y) (.lst (stands.map tupI)) = some (.bl (true ^^ decide (tupI y ∈ stands.map tupI))) := in_pl true rfl (plD_tupI 63 y) (plL_tupI 62 stands)
        refine ⟨_, rfl, ?_, fun _ => ?_⟩
        · simp only [wps, w_C, w_Var, k_Var, w_Bin, k_Bin1, k_Bin2, w_Tst, k_B, w_Chain, k_Ch1, k_Ch2, k_Ch3t, k_Ch3f, k_Ch4, w_And, w_Or, w_Not, k_Andt, k_Andf, k_Ort, k_Orf, k_Not, w_bAnd, w_bOr, w_bNot, w_bYes, k_bAndt, k_bAndf, k_bOrt, k_bOrf, k_bNot, w_dIf, k_dIft, k_dIff, w_aNil, w_aCons, k_Cons1, k_Cons2, w_Tup, w_Lst, w_Cell, k_Tup, k_Lst, k_Cell, w_Call, k_Call, w_CallF, k_CallF, w_CallN, k_CallN, k_New, k_AddN1, w_Un, k_Un, w_Sl, k_Sl1, k_Sl2, k_Sl3, w_No, w_So, k_So, w_iSeq, k_Items, w_Range1, w_Range2, k_Rng1, k_Rng2, w_iEnum, k_Enum, w_Comp, k_Comp, k_AsL, w_TupRg, w_LstRg, k_TupRg, k_LstRg, w_Rev, k_Rev, rev_tup, rev_lst, k_Di1, k_PT1, k_PT2, w_Nil, w_Nop, w_Fl, w_Seq, k_Seqn, k_Seqr, k_Seqb, k_Seqc, w_Expr, k_Drop, w_Ret, k_Ret, w_Set, k_Set, w_Asg, k_Asg1, k_Nx, w_If, k_Ift, k_Iff, w_For, k_For, k_Put1, k_Put2, w_Fun, w_Fun0, k_Funn, k_Funr, w_newK, w_newT, asB_bl, gN, gTupD, gsCons, gsNil, wipeE, itemsOf, seqItems, len_str, add_ii, sub_ii, neg_i, lt_ii, le_ii, gt_ii, ge_ii, eq_ii, ne_ii, eq_ss, ne_ss, isnot_bb, is_bb, is_non, isnot_non, isNonD, ix_tupD, ix_lstD, ix_fzD, at_lit0, at_lit1, at_lit2, at_lit3, len_fz, len_lst, len_tup, List.map_cons, List.map_nil, List.length_cons, List.length_nil, List.getElem?_cons_zero, List.getElem?_cons_succ, List.set_cons_zero, List.set_cons_succ, List.cons_append, List.nil_append, List.replicate_succ, List.replicate_zero, Nat.reduceSub, Nat.reduceAdd, Nat.reduceLeDiff, if_true, if_false, Bool.false_eq_true, Bool.true_eq_false, Bool.not_true, Bool.not_false, Option.bind_some, Option.map_some, Nat.zero_add, ite_true, ite_false, Int.cast_ofNat_Int, Int.natCast_zero, Int.natCast_one, Int.reduceLT, Int.reduceLE, Int.reduceEq, Int.reduceAdd, Int.reduceSub, Int.reduceNeg, decide_true, decide_false, true_and, and_true, le_size, add_ll, add_tt, tuple_lst, tuple_tup, list_tup, list_lst, sl_tup, sl_lst, ii_non_int, ii_non_bool, ii_non_str, ii_non_tuple, ii_non_list, ii_non_dict, ii_bl_int, ii_bl_bool, ii_bl_str, ii_bl_tuple, ii_bl_list, ii_bl_dict, ii_int_int, ii_int_bool, ii_int_str, ii_int_tuple, ii_int_list, ii_int_dict, ii_str_int, ii_str_bool, ii_str_str, ii_str_tuple, ii_str_list, ii_str_dict, ii_tup_int, ii_tup_bool, ii_tup_str, ii_tup_tuple, ii_tup_list, ii_tup_dict, ii_lst_int, ii_lst_bool, ii_lst_str, ii_lst_tuple, ii_lst_list, ii_lst_dict, ii_fz_int, ii_fz_bool, ii_fz_str, ii_fz_tuple, ii_fz_list, ii_fz_dict, hin, Bool.true_xor]
        · simp only [wps, w_C, w_Var, k_Var, w_Bin, k_Bin1, k_Bin2, w_Tst, k_B, w_Chain, k_Ch1, k_Ch2, k_Ch3t, k_Ch3f, k_Ch4, w_And, w_Or, w_Not, k_Andt, k_Andf, k_Ort, k_Orf, k_Not, w_bAnd, w_bOr, w_bNot, w_bYes, k_bAndt, k_bAndf, k_bOrt, k_bOrf, k_bNot, w_dIf, k_dIft, k_dIff, w_aNil, w_aCons, k_Cons1, k_Cons2, w_Tup, w_Lst, w_Cell, k_Tup, k_Lst, k_Cell, w_Call, k_Call, w_CallF, k_CallF, w_CallN, k_CallN, k_New, k_AddN1, w_Un, k_Un, w_Sl, k_Sl1, k_Sl2, k_Sl3, w_No, w_So, k_So, w_iSeq, k_Items, w_Range1, w_Range2, k_Rng1, k_Rng2, w_iEnum, k_Enum, w_Comp, k_Comp, k_AsL, w_TupRg, w_LstRg, k_TupRg, k_LstRg, w_Rev, k_Rev, rev_tup, rev_lst, k_Di1, k_PT1, k_PT2, w_Nil, w_Nop, w_Fl, w_Seq, k_Seqn, k_Seqr, k_Seqb, k_Seqc, w_Expr, k_Drop, w_Ret, k_Ret, w_Set, k_Set, w_Asg, k_Asg1, k_Nx, w_If, k_Ift, k_Iff, w_For, k_For, k_Put1, k_Put2, w_Fun, w_Fun0, k_Funn, k_Funr, w_newK, w_newT, asB_bl, gN, gTupD, gsCons, gsNil, wipeE, itemsOf, seqItems, len_str, add_ii, sub_ii, neg_i, lt_ii, le_ii, gt_ii, ge_ii, eq_ii, ne_ii, eq_ss, ne_ss, isnot_bb, is_bb, is_non, isnot_non, isNonD, ix_tupD, ix_lstD, ix_fzD, at_lit0, at_lit1, at_lit2, at_lit3, len_fz, len_lst, len_tup, List.map_cons, List.map_nil, List.length_cons, List.length_nil, List.getElem?_cons_zero, List.getElem?_cons_succ, List.set_cons_zero, List.set_cons_succ, List.cons_append, List.nil_append, List.replicate_succ, List.replicate_zero, Nat.reduceSub, Nat.reduceAdd, Nat.reduceLeDiff, if_true, if_false, Bool.false_eq_true, Bool.true_eq_false, Bool.not_true, Bool.not_false, Option.bind_some, Option.map_some, Nat.zero_add, ite_true, ite_false, Int.cast_ofNat_Int, Int.natCast_zero, Int.natCast_one, Int.reduceLT, Int.reduceLE, Int.reduceEq, Int.reduceAdd, Int.reduceSub, Int.reduceNeg, decide_true, decide_false, true_and, and_true, le_size, add_ll, add_tt, tuple_lst, tuple_tup, list_tup, list_lst, sl_tup, sl_lst, ii_non_int, ii_non_bool, ii_non_str, ii_non_tuple, ii_non_list, ii_non_dict, ii_bl_int, ii_bl_bool, ii_bl_str, ii_bl_tuple, ii_bl_list, ii_bl_dict, ii_int_int, ii_int_bool, ii_int_str, ii_int_tuple, ii_int_list, ii_int_dict, ii_str_int, ii_str_bool, ii_str_str, ii_str_tuple, ii_str_list, ii_str_dict, ii_tup_int, ii_tup_bool, ii_tup_str, ii_tup_tuple, ii_tup_list, ii_tup_dict, ii_lst_int, ii_lst_bool, ii_lst_str, ii_lst_tuple, ii_lst_list, ii_lst_dict, ii_fz_int, ii_fz_bool, ii_fz_str, ii_fz_tuple, ii_fz_list, ii_fz_dict]; rfl
      · rw [List.map_id]
        have fl := List.length_filter_le (fun d => !decide (d ∈ stands.map tupI)) ((kvs.map (·.1)).map tupI)
        rw [List.length_map, List.length_map] at fl
        generalize hF : ((kvs.map (·.1)).map tupI).filter (fun d => !decide (d ∈ stands.map tupI)) = F at fl ⊢
        have hFT : ∀ d ∈ F, TI d := fun d hd => by
          rw [← hF] at hd
          obtain ⟨y, hy, e⟩ := List.mem_map.mp (List.mem_filter.mp hd).1
          obtain ⟨p, hp, ep⟩ := List.mem_map.mp hy
          refine ⟨y, e.symm, ?_⟩
          have := (hsr.ok.ent p hp).1
          rw [ep, List.length_map, emo, lenx] at this
          omega
        have B := addR S4 (stands.map tupI) F (by omega) (by omega)
        simp only [wps, w_C, w_Var, k_Var, w_Bin, k_Bin1, k_Bin2, w_Tst, k_B, w_Chain, k_Ch1, k_Ch2, k_Ch3t, k_Ch3f, k_Ch4, w_And, w_Or, w_Not, k_Andt, k_Andf, k_Ort, k_Orf, k_Not, w_bAnd, w_bOr, w_bNot, w_bYes, k_bAndt, k_bAndf, k_bOrt, k_bOrf, k_bNot, w_dIf, k_dIft, k_dIff, w_aNil, w_aCons, k_Cons1, k_Cons2, w_Tup, w_Lst, w_Cell, k_Tup, k_Lst, k_Cell, w_Call, k_Call, w_CallF, k_CallF, w_CallN, k_CallN, k_New, k_AddN1, w_Un, k_Un, w_Sl, k_Sl1, k_Sl2, k_Sl3, w_No, w_So, k_So, w_iSeq, k_Items, w_Range1, w_Range2, k_Rng1, k_Rng2, w_iEnum, k_Enum, w_Comp, k_Comp, k_AsL, w_TupRg, w_LstRg, k_TupRg, k_LstRg, w_Rev, k_Rev, rev_tup, rev_lst, k_Di1, k_PT1, k_PT2, w_Nil, w_Nop, w_Fl, w_Seq, k_Seqn, k_Seqr, k_Seqb, k_Seqc, w_Expr, k_Drop, w_Ret, k_Ret, w_Set, k_Set, w_Asg, k_Asg1, k_Nx, w_If, k_Ift, k_Iff, w_For, k_For, k_Put1, k_Put2, w_Fun, w_Fun0, k_Funn, k_Funr, w_newK, w_newT, asB_bl, gN, gTupD, gsCons, gsNil, wipeE, itemsOf, seqItems, len_str, add_ii, sub_ii, neg_i, lt_ii, le_ii, gt_ii, ge_ii, eq_ii, ne_ii, eq_ss, ne_ss, isnot_bb, is_bb, is_non, isnot_non, isNonD, ix_tupD, ix_lstD, ix_fzD, at_lit0, at_lit1, at_lit2, at_lit3, len_fz, len_lst, len_tup, List.map_cons, List.map_nil, List.length_cons, List.length_nil, List.getElem?_cons_zero, List.getElem?_cons_succ, List.set_cons_zero, List.set_cons_succ, List.cons_append, List.nil_append, List.replicate_succ, List.replicate_zero, Nat.reduceSub, Nat.reduceAdd, Nat.reduceLeDiff, if_true, if_false, Bool.false_eq_true, Bool.true_eq_false, Bool.not_true, Bool.not_false, Option.bind_some, Option.map_some, Nat.zero_add, ite_true, ite_false, Int.cast_ofNat_Int, Int.natCast_zero, Int.natCast_one, Int.reduceLT, Int.reduceLE, Int.reduceEq, Int.reduceAdd, Int.reduceSub, Int.reduceNeg, decide_true, decide_false, true_and, and_true, le_size, add_ll, add_tt, tuple_lst, tuple_tup, list_tup, list_lst, sl_tup, sl_lst, ii_non_int, ii_non_bool, ii_non_str, ii_non_tuple, ii_non_list, ii_non_dict, ii_bl_int, ii_bl_bool, ii_bl_str, ii_bl_tuple, ii_bl_list, ii_bl_dict, ii_int_int, ii_int_bool, ii_int_str, ii_int_tuple, ii_int_list, ii_int_dict, ii_str_int, ii_str_bool, ii_str_str, ii_str_tuple, ii_str_list, ii_str_dict, ii_tup_int, ii_tup_bool, ii_tup_str, ii_tup_tuple, ii_tup_list, ii_tup_dict, ii_lst_int, ii_lst_bool, ii_lst_str, ii_lst_tuple, ii_lst_list, ii_lst_dict, ii_fz_int, ii_fz_bool, ii_fz_str, ii_fz_tuple, ii_fz_list, ii_fz_dict, B]
        exact fin _ _ (fun d hd => (List.mem_append.mp hd).elim (rowT d) (hFT d)) (by rw [List.length_append]; omega) hrS
  have hi1 := cutI_hi s 1 (by omega) (by omega)
  have A3 : oAdd S3 (.tup (s.map D.int)) (.tup [.int 0]) = some (.tup ((s ++ [0]).map D.int)) := addI (b := [0]) (by show _ + 1 ≤ 1000; omega)
  simp only [wps, w_C, w_Var, k_Var, w_Bin, k_Bin1, k_Bin2, w_Tst, k_B, w_Chain, k_Ch1, k_Ch2, k_Ch3t, k_Ch3f, k_Ch4, w_And, w_Or, w_Not, k_Andt, k_Andf, k_Ort, k_Orf, k_Not, w_bAnd, w_bOr, w_bNot, w_bYes, k_bAndt, k_bAndf, k_bOrt, k_bOrf, k_bNot, w_dIf, k_dIft, k_dIff, w_aNil, w_aCons, k_Cons1, k_Cons2, w_Tup, w_Lst, w_Cell, k_Tup, k_Lst, k_Cell, w_Call, k_Call, w_CallF, k_CallF, w_CallN, k_CallN, k_New, k_AddN1, w_Un, k_Un, w_Sl, k_Sl1, k_Sl2, k_Sl3, w_No, w_So, k_So, w_iSeq, k_Items, w_Range1, w_Range2, k_Rng1, k_Rng2, w_iEnum, k_Enum, w_Comp, k_Comp, k_AsL, w_TupRg, w_LstRg, k_TupRg, k_LstRg, w_Rev, k_Rev, rev_tup, rev_lst, k_Di1, k_PT1, k_PT2, w_Nil, w_Nop, w_Fl, w_Seq, k_Seqn, k_Seqr, k_Seqb, k_Seqc, w_Expr, k_Drop, w_Ret, k_Ret, w_Set, k_Set, w_Asg, k_Asg1, k_Nx, w_If, k_Ift, k_Iff, w_For, k_For, k_Put1, k_Put2, w_Fun, w_Fun0, k_Funn, k_Funr, w_newK, w_newT, asB_bl, gN, gTupD, gsCons, gsNil, wipeE, itemsOf, seqItems, len_str, add_ii, sub_ii, neg_i, lt_ii, le_ii, gt_ii, ge_ii, eq_ii, ne_ii, eq_ss, ne_ss, isnot_bb, is_bb, is_non, isnot_non, isNonD, ix_tupD, ix_lstD, ix_fzD, at_lit0, at_lit1, at_lit2, at_lit3, len_fz, len_lst, len_tup, List.map_cons, List.map_nil, List.length_cons, List.length_nil, List.getElem?_cons_zero, List.getElem?_cons_succ, List.set_cons_zero, List.set_cons_succ, List.cons_append, List.nil_append, List.replicate_succ, List.replicate_zero, Nat.reduceSub, Nat.reduceAdd, Nat.reduceLeDiff, if_true, if_false, Bool.false_eq_true, Bool.true_eq_false, Bool.not_true, Bool.not_false, Option.bind_some, Option.map_some, Nat.zero_add, ite_true, ite_false, Int.cast_ofNat_Int, Int.natCast_zero, Int.natCast_one, Int.reduceLT, Int.reduceLE, Int.reduceEq, Int.reduceAdd, Int.reduceSub, Int.reduceNeg, decide_true, decide_false, true_and, and_true, le_size, add_ll, add_tt, tuple_lst, tuple_tup, list_tup, list_lst, sl_tup, sl_lst, ii_non_int, ii_non_bool, ii_non_str, ii_non_tuple, ii_non_list, ii_non_dict, ii_bl_int, ii_bl_bool, ii_bl_str, ii_bl_tuple, ii_bl_list, ii_bl_dict, ii_int_int, ii_int_bool, ii_int_str, ii_int_tuple, ii_int_list, ii_int_dict, ii_str_int, ii_str_bool, ii_str_str, ii_str_tuple, ii_str_list, ii_str_dict, ii_tup_int, ii_tup_bool, ii_tup_str, ii_tup_tuple, ii_tup_list, ii_tup_dict, ii_lst_int, ii_lst_bool, ii_lst_str, ii_lst_tuple, ii_lst_list, ii_lst_dict, ii_fz_int, ii_fz_bool, ii_fz_str, ii_fz_tuple, ii_fz_list, ii_fz_dict, ← ex, hi1, lo, hi, A1, A2, A3]
  refine at_in TI ?_ (by omega) (by show way - 5 < 5; omega) fun d hdT => ?_
  · refine allc (p := TI) ⟨_, rfl, by rw [lenx]; omega⟩ (allc (p := TI) ⟨_, rfl, by rw [lenx]; omega⟩ (allc (p := TI) ⟨s ++ [0], rfl, by rw [List.length_append]; show _ + 1 ≤ 100; omega⟩ (allc (p := TI) ⟨_, rfl, by rw [List.length_drop]; omega⟩ (allc (p := TI) ⟨_, rfl, by rw [lenx]; omega⟩ alln))))
  have B := addR S3 [d] (stands.map tupI) (by show 1 ≤ 3500; decide) (by omega)
  simp only [wps, w_C, w_Var, k_Var, w_Bin, k_Bin1, k_Bin2, w_Tst, k_B, w_Chain, k_Ch1, k_Ch2, k_Ch3t, k_Ch3f, k_Ch4, w_And, w_Or, w_Not, k_Andt, k_Andf, k_Ort, k_Orf, k_Not, w_bAnd, w_bOr, w_bNot, w_bYes, k_bAndt, k_bAndf, k_bOrt, k_bOrf, k_bNot, w_dIf, k_dIft, k_dIff, w_aNil, w_aCons, k_Cons1, k_Cons2, w_Tup, w_Lst, w_Cell, k_Tup, k_Lst, k_Cell, w_Call, k_Call, w_CallF, k_CallF, w_CallN, k_CallN, k_New, k_AddN1, w_Un, k_Un, w_Sl, k_Sl1, k_Sl2, k_Sl3, w_No, w_So, k_So, w_iSeq, k_Items, w_Range1, w_Range2, k_Rng1, k_Rng2, w_iEnum, k_Enum, w_Comp, k_Comp, k_AsL, w_TupRg, w_LstRg, k_TupRg, k_LstRg, w_Rev, k_Rev, rev_tup, rev_lst, k_Di1, k_PT1, k_PT2, w_Nil, w_Nop, w_Fl, w_Seq, k_Seqn, k_Seqr, k_Seqb, k_Seqc, w_Expr, k_Drop, w_Ret, k_Ret, w_Set, k_Set, w_Asg, k_Asg1, k_Nx, w_If, k_Ift, k_Iff, w_For, k_For, k_Put1, k_Put2, w_Fun, w_Fun0, k_Funn, k_Funr, w_newK, w_newT, asB_bl, gN, gTupD, gsCons, gsNil, wipeE, itemsOf, seqItems, len_str, add_ii, sub_ii, neg_i, lt_ii, le_ii, gt_ii, ge_ii, eq_ii, ne_ii, eq_ss, ne_ss, isnot_bb, is_bb, is_non, isnot_non, isNonD, ix_tupD, ix_lstD, ix_fzD, at_lit0, at_lit1, at_lit2, at_lit3, len_fz, len_lst, len_tup, List.map_cons, List.map_nil, List.length_cons, List.length_nil, List.getElem?_cons_zero, List.getElem?_cons_succ, List.set_cons_zero, List.set_cons_succ, List.cons_append, List.nil_append, List.replicate_succ, List.replicate_zero, Nat.reduceSub, Nat.reduceAdd, Nat.reduceLeDiff, if_true, if_false, Bool.false_eq_true, Bool.true_eq_false, Bool.not_true, Bool.not_false, Option.bind_some, Option.map_some, Nat.zero_add, ite_true, ite_false, Int.cast_ofNat_Int, Int.natCast_zero, Int.natCast_one, Int.reduceLT, Int.reduceLE, Int.reduceEq, Int.reduceAdd, Int.reduceSub, Int.reduceNeg, decide_true, decide_false, true_and, and_true, le_size, add_ll, add_tt, tuple_lst, tuple_tup, list_tup, list_lst, sl_tup, sl_lst, ii_non_int, ii_non_bool, ii_non_str, ii_non_tuple, ii_non_list, ii_non_dict, ii_bl_int, ii_bl_bool, ii_bl_str, ii_bl_tuple, ii_bl_list, ii_bl_dict, ii_int_int, ii_int_bool, ii_int_str, ii_int_tuple, ii_int_list, ii_int_dict, ii_str_int, ii_str_bool, ii_str_str, ii_str_tuple, ii_str_list, ii_str_dict, ii_tup_int, ii_tup_bool, ii_tup_str, ii_tup_tuple, ii_tup_list, ii_tup_dict, ii_lst_int, ii_lst_bool, ii_lst_str, ii_lst_tuple, ii_lst_list, ii_lst_dict, ii_fz_int, ii_fz_bool, ii_fz_str, ii_fz_tuple, ii_fz_list, ii_fz_dict, B]
  refine fin _ _ (fun y hy => ?_) (by rw [List.length_cons]; omega) r
  rcases List.mem_cons.mp hy with z | z
  · rw [z]; exact hdT
  · exact rowT y z
end G
end DL
end L2

set_option Elab.async false
set_option linter.all false
set_option maxRecDepth 100000
namespace L2
namespace DL
open PySem PySem.Spec PyProof.Rows
namespace G
def RowI (d : D) : Prop := ∃ rs : List (List Int), d = .lst (rs.map tupI) ∧ rs.length ≤ 9000 ∧ ∀ g ∈ rs, g.length ≤ 1000
theorem ne_same (S : Sto) (b : Bool) : oNe S (.bl b) (.bl b) = some (.bl false) := by cases b <;> rfl
theorem listA_lst (S : Sto) (a : List D) : oListA S [.lst a] = some (.lst a) := rfl
open Classical in
theorem law_true (ns : List Int) (hl : ns.length ≤ 63) : ∃ S, f_law [.fz (ns.map D.int)] [] = .ok (.bl true) S := by
  have w : Wp (f_law [.fz (ns.map D.int)] []) fun d _ => d = .bl true := by
    unfold f_law d_law
    simp only [wps, w_C, w_Var, k_Var, w_Bin, k_Bin1, k_Bin2, w_Tst, k_B, w_Chain, k_Ch1, k_Ch2, k_Ch3t, k_Ch3f, k_Ch4, w_And, w_Or, w_Not, k_Andt, k_Andf, k_Ort, k_Orf, k_Not, w_bAnd, w_bOr, w_bNot, w_bYes, k_bAndt, k_bAndf, k_bOrt, k_bOrf, k_bNot, w_dIf, k_dIft, k_dIff, w_aNil, w_aCons, k_Cons1, k_Cons2, w_Tup, w_Lst, w_Cell, k_Tup, k_Lst, k_Cell, w_Call, k_Call, w_CallF, k_CallF, w_CallN, k_CallN, k_New, k_AddN1, w_Un, k_Un, w_Sl, k_Sl1, k_Sl2, k_Sl3, w_No, w_So, k_So, w_iSeq, k_Items, w_Range1, w_Range2, k_Rng1, k_Rng2, w_iEnum, k_Enum, w_Comp, k_Comp, k_AsL, w_TupRg, w_LstRg, k_TupRg, k_LstRg, w_Rev, k_Rev, rev_tup, rev_lst, k_Di1, k_PT1, k_PT2, w_Nil, w_Nop, w_Fl, w_Seq, k_Seqn, k_Seqr, k_Seqb, k_Seqc, w_Expr, k_Drop, w_Ret, k_Ret, w_Set, k_Set, w_Asg, k_Asg1, k_Nx, w_If, k_Ift, k_Iff, w_For, k_For, k_Put1, k_Put2, w_Fun, w_Fun0, k_Funn, k_Funr, w_newK, w_newT, asB_bl, gN, gTupD, gsCons, gsNil, wipeE, itemsOf, seqItems, len_str, add_ii, sub_ii, neg_i, lt_ii, le_ii, gt_ii, ge_ii, eq_ii, ne_ii, eq_ss, ne_ss, isnot_bb, is_bb, is_non, isnot_non, isNonD, ix_tupD, ix_lstD, ix_fzD, at_lit0, at_lit1, at_lit2, at_lit3, len_fz, len_lst, len_tup, List.map_cons, List.map_nil, List.length_cons, List.length_nil, List.getElem?_cons_zero, List.getElem?_cons_succ, List.set_cons_zero, List.set_cons_succ, List.cons_append, List.nil_append, List.replicate_succ, List.replicate_zero, Nat.reduceSub, Nat.reduceAdd, Nat.reduceLeDiff, if_true, if_false, Bool.false_eq_true, Bool.true_eq_false, Bool.not_true, Bool.not_false, Option.bind_some, Option.map_some, Nat.zero_add, ite_true, ite_false, Int.cast_ofNat_Int, Int.natCast_zero, Int.natCast_one, Int.reduceLT, Int.reduceLE, Int.reduceEq, Int.reduceAdd, Int.reduceSub, Int.reduceNeg, decide_true, decide_false, true_and, and_true, le_size, add_ll, add_tt, tuple_lst, tuple_tup, list_tup, list_lst, sl_tup, sl_lst, ii_non_int, ii_non_bool, ii_non_str, ii_non_tuple, ii_non_list, ii_non_dict, ii_bl_int, ii_bl_bool, ii_bl_str, ii_bl_tuple, ii_bl_list, ii_bl_dict, ii_int_int, ii_int_bool, ii_int_str, ii_int_tuple, ii_int_list, ii_int_dict, ii_str_int, ii_str_bool, ii_str_str, ii_str_tuple, ii_str_list, ii_str_dict, ii_tup_int, ii_tup_bool, ii_tup_str, ii_tup_tuple, ii_tup_list, ii_tup_dict, ii_lst_int, ii_lst_bool, ii_lst_str, ii_lst_tuple, ii_lst_list, ii_lst_dict, ii_fz_int, ii_fz_bool, ii_fz_str, ii_fz_tuple, ii_fz_list, ii_fz_dict, rng1_int (show (0 : Int) ≤ 3 by decide) (show (3 : Int) < 2 ^ 62 by decide)]
    refine (fun after => forGo_all (fun env T => ∃ e2 e3 e4 e5 e6 e7 e8 e9, env = [some (.fz (ns.map D.int)), some (.ref 0), e2, e3, e4, e5, e6, e7, e8, e9] ∧ DK ns 0 T) ⟨_, _, _, _, _, _, _, _, rfl, 0, 0, Int.le_refl _, Int.le_refl _, rfl⟩ (fun d hd env T hI => ?_) after) ?_
    · obtain ⟨e2, e3, e4, e5, e6, e7, e8, e9, e, hT⟩ := hI
      subst e
      obtain ⟨i, hi⟩ := List.getElem?_of_mem hd
      obtain ⟨_, ed⟩ := rng_get hi
      subst ed
      refine ⟨_, rfl, ?_⟩
      refine brk_deck rfl rfl rfl hT (after _ _ ⟨_, _, _, _, _, _, _, _, rfl, hT⟩) ?_
      simp only [wps, w_C, w_Var, k_Var, w_Bin, k_Bin1, k_Bin2, w_Tst, k_B, w_Chain, k_Ch1, k_Ch2, k_Ch3t, k_Ch3f, k_Ch4, w_And, w_Or, w_Not, k_Andt, k_Andf, k_Ort, k_Orf, k_Not, w_bAnd, w_bOr, w_bNot, w_bYes, k_bAndt, k_bAndf, k_bOrt, k_bOrf, k_bNot, w_dIf, k_dIft, k_dIff, w_aNil, w_aCons, k_Cons1, k_Cons2, w_Tup, w_Lst, w_Cell, k_Tup, k_Lst, k_Cell, w_Call, k_Call, w_CallF, k_CallF, w_CallN, k_CallN, k_New, k_AddN1, w_Un, k_Un, w_Sl, k_Sl1, k_Sl2, k_Sl3, w_No, w_So, k_So, w_iSeq, k_Items, w_Range1, w_Range2, k_Rng1, k_Rng2, w_iEnum, k_Enum, w_Comp, k_Comp, k_AsL, w_TupRg, w_LstRg, k_TupRg, k_LstRg, w_Rev, k_Rev, rev_tup, rev_lst, k_Di1, k_PT1, k_PT2, w_Nil, w_Nop, w_Fl, w_Seq, k_Seqn, k_Seqr, k_Seqb, k_Seqc, w_Expr, k_Drop, w_Ret, k_Ret, w_Set, k_Set, w_Asg, k_Asg1, k_Nx, w_If, k_Ift, k_Iff, w_For, k_For, k_Put1, k_Put2, w_Fun, w_Fun0, k_Funn, k_Funr, w_newK, w_newT, asB_bl, gN, gTupD, gsCons, gsNil, wipeE, itemsOf, seqItems, len_str, add_ii, sub_ii, neg_i, lt_ii, le_ii, gt_ii, ge_ii, eq_ii, ne_ii, eq_ss, ne_ss, isnot_bb, is_bb, is_non, isnot_non, isNonD, ix_tupD, ix_lstD, ix_fzD, at_lit0, at_lit1, at_lit2, at_lit3, len_fz, len_lst, len_tup, List.map_cons, List.map_nil, List.length_cons, List.length_nil, List.getElem?_cons_zero, List.getElem?_cons_succ, List.set_cons_zero, List.set_cons_succ, List.cons_append, List.nil_append, List.replicate_succ, List.replicate_zero, Nat.reduceSub, Nat.reduceAdd, Nat.reduceLeDiff, if_true, if_false, Bool.false_eq_true, Bool.true_eq_false, Bool.not_true, Bool.not_false, Option.bind_some, Option.map_some, Nat.zero_add, ite_true, ite_false, Int.cast_ofNat_Int, Int.natCast_zero, Int.natCast_one, Int.reduceLT, Int.reduceLE, Int.reduceEq, Int.reduceAdd, Int.reduceSub, Int.reduceNeg, decide_true, decide_false, true_and, and_true, le_size, add_ll, add_tt, tuple_lst, tuple_tup, list_tup, list_lst, sl_tup, sl_lst, ii_non_int, ii_non_bool, ii_non_str, ii_non_tuple, ii_non_list, ii_non_dict, ii_bl_int, ii_bl_bool, ii_bl_str, ii_bl_tuple, ii_bl_list, ii_bl_dict, ii_int_int, ii_int_bool, ii_int_str, ii_int_tuple, ii_int_list, ii_int_dict, ii_str_int, ii_str_bool, ii_str_str, ii_str_tuple, ii_str_list, ii_str_dict, ii_tup_int, ii_tup_bool, ii_tup_str, ii_tup_tuple, ii_tup_list, ii_tup_dict, ii_lst_int, ii_lst_bool, ii_lst_str, ii_lst_tuple, ii_lst_list, ii_lst_dict, ii_fz_int, ii_fz_bool, ii_fz_str, ii_fz_tuple, ii_fz_list, ii_fz_dict]
      refine meet_wp hT fun k cs S1 hM r1 => ?_
      have hc5 := hM.l5
      have hc1 := hM.l1
      have k1 := hM.k1
      have hE : Ent cs.length cs := ⟨rfl, fun z hz => by
        have := hM.c0 z hz
        refine ⟨this.1, ?_⟩
        have h2 := this.2
        simp only [Bool.false_eq_true, if_false] at h2
        unfold capN at h2
        split at h2
        · exact h2
        · split at h2 <;> omega⟩
      simp only [wps, w_C, w_Var, k_Var, w_Bin, k_Bin1, k_Bin2, w_Tst, k_B, w_Chain, k_Ch1, k_Ch2, k_Ch3t, k_Ch3f, k_Ch4, w_And, w_Or, w_Not, k_Andt, k_Andf, k_Ort, k_Orf, k_Not, w_bAnd, w_bOr, w_bNot, w_bYes, k_bAndt, k_bAndf, k_bOrt, k_bOrf, k_bNot, w_dIf, k_dIft, k_dIff, w_aNil, w_aCons, k_Cons1, k_Cons2, w_Tup, w_Lst, w_Cell, k_Tup, k_Lst, k_Cell, w_Call, k_Call, w_CallF, k_CallF, w_CallN, k_CallN, k_New, k_AddN1, w_Un, k_Un, w_Sl, k_Sl1, k_Sl2, k_Sl3, w_No, w_So, k_So, w_iSeq, k_Items, w_Range1, w_Range2, k_Rng1, k_Rng2, w_iEnum, k_Enum, w_Comp, k_Comp, k_AsL, w_TupRg, w_LstRg, k_TupRg, k_LstRg, w_Rev, k_Rev, rev_tup, rev_lst, k_Di1, k_PT1, k_PT2, w_Nil, w_Nop, w_Fl, w_Seq, k_Seqn, k_Seqr, k_Seqb, k_Seqc, w_Expr, k_Drop, w_Ret, k_Ret, w_Set, k_Set, w_Asg, k_Asg1, k_Nx, w_If, k_Ift, k_Iff, w_For, k_For, k_Put1, k_Put2, w_Fun, w_Fun0, k_Funn, k_Funr, w_newK, w_newT, asB_bl, gN, gTupD, gsCons, gsNil, wipeE, itemsOf, seqItems, len_str, add_ii, sub_ii, neg_i, lt_ii, le_ii, gt_ii, ge_ii, eq_ii, ne_ii, eq_ss, ne_ss, isnot_bb, is_bb, is_non, isnot_non, isNonD, ix_tupD, ix_lstD, ix_fzD, at_lit0, at_lit1, at_lit2, at_lit3, len_fz, len_lst, len_tup, List.map_cons, List.map_nil, List.length_cons, List.length_nil, List.getElem?_cons_zero, List.getElem?_cons_succ, List.set_cons_zero, List.set_cons_succ, List.cons_append, List.nil_append, List.replicate_succ, List.replicate_zero, Nat.reduceSub, Nat.reduceAdd, Nat.reduceLeDiff, if_true, if_false, Bool.false_eq_true, Bool.true_eq_false, Bool.not_true, Bool.not_false, Option.bind_some, Option.map_some, Nat.zero_add, ite_true, ite_false, Int.cast_ofNat_Int, Int.natCast_zero, Int.natCast_one, Int.reduceLT, Int.reduceLE, Int.reduceEq, Int.reduceAdd, Int.reduceSub, Int.reduceNeg, decide_true, decide_false, true_and, and_true, le_size, add_ll, add_tt, tuple_lst, tuple_tup, list_tup, list_lst, sl_tup, sl_lst, ii_non_int, ii_non_bool, ii_non_str, ii_non_tuple, ii_non_list, ii_non_dict, ii_bl_int, ii_bl_bool, ii_bl_str, ii_bl_tuple, ii_bl_list, ii_bl_dict, ii_int_int, ii_int_bool, ii_int_str, ii_int_tuple, ii_int_list, ii_int_dict, ii_str_int, ii_str_bool, ii_str_str, ii_str_tuple, ii_str_list, ii_str_dict, ii_tup_int, ii_tup_bool, ii_tup_str, ii_tup_tuple, ii_tup_list, ii_tup_dict, ii_lst_int, ii_lst_bool, ii_lst_str, ii_lst_tuple, ii_lst_list, ii_lst_dict, ii_fz_int, ii_fz_bool, ii_fz_str, ii_fz_tuple, ii_fz_list, ii_fz_dict]
      refine search_wp k1 hc5 hE fun q kvs dep S2 hsr => ?_
      have r2 := hsr.kx.dr r1.dk
      have hsm := hsr.ok.small hc5
      obtain ⟨stands, est⟩ : ∃ stands, stands = kvs.map (·.1) := ⟨_, rfl⟩
      have hst : ∀ s ∈ stands, Ent cs.length s := fun s hs => by
        rw [est] at hs
        obtain ⟨p, hp, e⟩ := List.mem_map.mp hs
        rw [← e]
        exact hsr.ok.ent p hp
      have hsl : stands.length ≤ 3125 := by rw [est, List.length_map]; exact hsm
      have hs1 : 1 ≤ stands.length := by
        rw [est, List.length_map]
        exact Nat.pos_of_ne_zero fun z => hsr.ne (List.length_eq_zero_iff.mp z)
      have hli := listT_I hsr.tab
      rw [← est] at hli
      simp only [wps, w_C, w_Var, k_Var, w_Bin, k_Bin1, k_Bin2, w_Tst, k_B, w_Chain, k_Ch1, k_Ch2, k_Ch3t, k_Ch3f, k_Ch4, w_And, w_Or, w_Not, k_Andt, k_Andf, k_Ort, k_Orf, k_Not, w_bAnd, w_bOr, w_bNot, w_bYes, k_bAndt, k_bAndf, k_bOrt, k_bOrf, k_bNot, w_dIf, k_dIft, k_dIff, w_aNil, w_aCons, k_Cons1, k_Cons2, w_Tup, w_Lst, w_Cell, k_Tup, k_Lst, k_Cell, w_Call, k_Call, w_CallF, k_CallF, w_CallN, k_CallN, k_New, k_AddN1, w_Un, k_Un, w_Sl, k_Sl1, k_Sl2, k_Sl3, w_No, w_So, k_So, w_iSeq, k_Items, w_Range1, w_Range2, k_Rng1, k_Rng2, w_iEnum, k_Enum, w_Comp, k_Comp, k_AsL, w_TupRg, w_LstRg, k_TupRg, k_LstRg, w_Rev, k_Rev, rev_tup, rev_lst, k_Di1, k_PT1, k_PT2, w_Nil, w_Nop, w_Fl, w_Seq, k_Seqn, k_Seqr, k_Seqb, k_Seqc, w_Expr, k_Drop, w_Ret, k_Ret, w_Set, k_Set, w_Asg, k_Asg1, k_Nx, w_If, k_Ift, k_Iff, w_For, k_For, k_Put1, k_Put2, w_Fun, w_Fun0, k_Funn, k_Funr, w_newK, w_newT, asB_bl, gN, gTupD, gsCons, gsNil, wipeE, itemsOf, seqItems, len_str, add_ii, sub_ii, neg_i, lt_ii, le_ii, gt_ii, ge_ii, eq_ii, ne_ii, eq_ss, ne_ss, isnot_bb, is_bb, is_non, isnot_non, isNonD, ix_tupD, ix_lstD, ix_fzD, at_lit0, at_lit1, at_lit2, at_lit3, len_fz, len_lst, len_tup, List.map_cons, List.map_nil, List.length_cons, List.length_nil, List.getElem?_cons_zero, List.getElem?_cons_succ, List.set_cons_zero, List.set_cons_succ, List.cons_append, List.nil_append, List.replicate_succ, List.replicate_zero, Nat.reduceSub, Nat.reduceAdd, Nat.reduceLeDiff, if_true, if_false, Bool.false_eq_true, Bool.true_eq_false, Bool.not_true, Bool.not_false, Option.bind_some, Option.map_some, Nat.zero_add, ite_true, ite_false, Int.cast_ofNat_Int, Int.natCast_zero, Int.natCast_one, Int.reduceLT, Int.reduceLE, Int.reduceEq, Int.reduceAdd, Int.reduceSub, Int.reduceNeg, decide_true, decide_false, true_and, and_true, le_size, add_ll, add_tt, tuple_lst, tuple_tup, list_tup, list_lst, sl_tup, sl_lst, ii_non_int, ii_non_bool, ii_non_str, ii_non_tuple, ii_non_list, ii_non_dict, ii_bl_int, ii_bl_bool, ii_bl_str, ii_bl_tuple, ii_bl_list, ii_bl_dict, ii_int_int, ii_int_bool, ii_int_str, ii_int_tuple, ii_int_list, ii_int_dict, ii_str_int, ii_str_bool, ii_str_str, ii_str_tuple, ii_str_list, ii_str_dict, ii_tup_int, ii_tup_bool, ii_tup_str, ii_tup_tuple, ii_tup_list, ii_tup_dict, ii_lst_int, ii_lst_bool, ii_lst_str, ii_lst_tuple, ii_lst_list, ii_lst_dict, ii_fz_int, ii_fz_bool, ii_fz_str, ii_fz_tuple, ii_fz_list, ii_fz_dict, hli, rng1_int (show (0 : Int) ≤ 5 by decide) (show (5 : Int) < 2 ^ 62 by decide)]
      have hq : S2.length ≠ 0 := by have := r2.dk.lt; omega
      have rr : RowI (.lst (stands.map tupI)) := ⟨stands, rfl, by omega, fun g hg => by have := (hst g hg).1; omega⟩
      refine forGo_wp (fun rest env T => ∃ (e6 : Option D) (rows : List D), env = [some (.fz (ns.map D.int)), some (.ref 0), some (.int (0 + (i : Int))), some (.tup [.int k, .tup (cs.map D.int)]), some (.lst (stands.map tupI)), some (.ref S2.length), e6, e7, e8, e9] ∧ Dr ns 0 S2 T ∧ T[S2.length]? = some (.lst rows) ∧ (∀ d ∈ rows, RowI d) ∧ rows.length + rest.length ≤ 10) _ _ _
        ⟨e6, [.lst (stands.map tupI), .lst [], .lst [.tup (cs.map D.int)]], rfl, (Dr.refl r2.dk).app _, app_at _ _, allc rr (allc ⟨[], rfl, by decide, fun g hg => nomatch hg⟩ (allc ⟨[cs], rfl, by show 1 ≤ 9000; decide, fun g hg => by rw [List.mem_singleton.mp hg]; omega⟩ alln)), by rw [rng_len]; show 3 + 5 ≤ 10; decide⟩ (fun d rest env T hI => ?_) fun env T hI => ?_
      · obtain ⟨e6, rows, e, r3, hTr, hrows, hrl⟩ := hI
        subst e
        refine ⟨_, rfl, ?_⟩
        simp only [wps, w_C, w_Var, k_Var, w_Bin, k_Bin1, k_Bin2, w_Tst, k_B, w_Chain, k_Ch1, k_Ch2, k_Ch3t, k_Ch3f, k_Ch4, w_And, w_Or, w_Not, k_Andt, k_Andf, k_Ort, k_Orf, k_Not, w_bAnd, w_bOr, w_bNot, w_bYes, k_bAndt, k_bAndf, k_bOrt, k_bOrf, k_bNot, w_dIf, k_dIft, k_dIff, w_aNil, w_aCons, k_Cons1, k_Cons2, w_Tup, w_Lst, w_Cell, k_Tup, k_Lst, k_Cell, w_Call, k_Call, w_CallF, k_CallF, w_CallN, k_CallN, k_New, k_AddN1, w_Un, k_Un, w_Sl, k_Sl1, k_Sl2, k_Sl3, w_No, w_So, k_So, w_iSeq, k_Items, w_Range1, w_Range2, k_Rng1, k_Rng2, w_iEnum, k_Enum, w_Comp, k_Comp, k_AsL, w_TupRg, w_LstRg, k_TupRg, k_LstRg, w_Rev, k_Rev, rev_tup, rev_lst, k_Di1, k_PT1, k_PT2, w_Nil, w_Nop, w_Fl, w_Seq, k_Seqn, k_Seqr, k_Seqb, k_Seqc, w_Expr, k_Drop, w_Ret, k_Ret, w_Set, k_Set, w_Asg, k_Asg1, k_Nx, w_If, k_Ift, k_Iff, w_For, k_For, k_Put1, k_Put2, w_Fun, w_Fun0, k_Funn, k_Funr, w_newK, w_newT, asB_bl, gN, gTupD, gsCons, gsNil, wipeE, itemsOf, seqItems, len_str, add_ii, sub_ii, neg_i, lt_ii, le_ii, gt_ii, ge_ii, eq_ii, ne_ii, eq_ss, ne_ss, isnot_bb, is_bb, is_non, isnot_non, isNonD, ix_tupD, ix_lstD, ix_fzD, at_lit0, at_lit1, at_lit2, at_lit3, len_fz, len_lst, len_tup, List.map_cons, List.map_nil, List.length_cons, List.length_nil, List.getElem?_cons_zero, List.getElem?_cons_succ, List.set_cons_zero, List.set_cons_succ, List.cons_append, List.nil_append, List.replicate_succ, List.replicate_zero, Nat.reduceSub, Nat.reduceAdd, Nat.reduceLeDiff, if_true, if_false, Bool.false_eq_true, Bool.true_eq_false, Bool.not_true, Bool.not_false, Option.bind_some, Option.map_some, Nat.zero_add, ite_true, ite_false, Int.cast_ofNat_Int, Int.natCast_zero, Int.natCast_one, Int.reduceLT, Int.reduceLE, Int.reduceEq, Int.reduceAdd, Int.reduceSub, Int.reduceNeg, decide_true, decide_false, true_and, and_true, le_size, add_ll, add_tt, tuple_lst, tuple_tup, list_tup, list_lst, sl_tup, sl_lst, ii_non_int, ii_non_bool, ii_non_str, ii_non_tuple, ii_non_list, ii_non_dict, ii_bl_int, ii_bl_bool, ii_bl_str, ii_bl_tuple, ii_bl_list, ii_bl_dict, ii_int_int, ii_int_bool, ii_int_str, ii_int_tuple, ii_int_list, ii_int_dict, ii_str_int, ii_str_bool, ii_str_str, ii_str_tuple, ii_str_list, ii_str_dict, ii_tup_int, ii_tup_bool, ii_tup_str, ii_tup_tuple, ii_tup_list, ii_tup_dict, ii_lst_int, ii_lst_bool, ii_lst_str, ii_lst_tuple, ii_lst_list, ii_lst_dict, ii_fz_int, ii_fz_bool, ii_fz_str, ii_fz_tuple, ii_fz_list, ii_fz_dict]
        refine w_App ?_
        simp only [wps, w_C, w_Var, k_Var, w_Bin, k_Bin1, k_Bin2, w_Tst, k_B, w_Chain, k_Ch1, k_Ch2, k_Ch3t, k_Ch3f, k_Ch4, w_And, w_Or, w_Not, k_Andt, k_Andf, k_Ort, k_Orf, k_Not, w_bAnd, w_bOr, w_bNot, w_bYes, k_bAndt, k_bAndf, k_bOrt, k_bOrf, k_bNot, w_dIf, k_dIft, k_dIff, w_aNil, w_aCons, k_Cons1, k_Cons2, w_Tup, w_Lst, w_Cell, k_Tup, k_Lst, k_Cell, w_Call, k_Call, w_CallF, k_CallF, w_CallN, k_CallN, k_New, k_AddN1, w_Un, k_Un, w_Sl, k_Sl1, k_Sl2, k_Sl3, w_No, w_So, k_So, w_iSeq, k_Items, w_Range1, w_Range2, k_Rng1, k_Rng2, w_iEnum, k_Enum, w_Comp, k_Comp, k_AsL, w_TupRg, w_LstRg, k_TupRg, k_LstRg, w_Rev, k_Rev, rev_tup, rev_lst, k_Di1, k_PT1, k_PT2, w_Nil, w_Nop, w_Fl, w_Seq, k_Seqn, k_Seqr, k_Seqb, k_Seqc, w_Expr, k_Drop, w_Ret, k_Ret, w_Set, k_Set, w_Asg, k_Asg1, k_Nx, w_If, k_Ift, k_Iff, w_For, k_For, k_Put1, k_Put2, w_Fun, w_Fun0, k_Funn, k_Funr, w_newK, w_newT, asB_bl, gN, gTupD, gsCons, gsNil, wipeE, itemsOf, seqItems, len_str, add_ii, sub_ii, neg_i, lt_ii, le_ii, gt_ii, ge_ii, eq_ii, ne_ii, eq_ss, ne_ss, isnot_bb, is_bb, is_non, isnot_non, isNonD, ix_tupD, ix_lstD, ix_fzD, at_lit0, at_lit1, at_lit2, at_lit3, len_fz, len_lst, len_tup, List.map_cons, List.map_nil, List.length_cons, List.length_nil, List.getElem?_cons_zero, List.getElem?_cons_succ, List.set_cons_zero, List.set_cons_succ, List.cons_append, List.nil_append, List.replicate_succ, List.replicate_zero, Nat.reduceSub, Nat.reduceAdd, Nat.reduceLeDiff, if_true, if_false, Bool.false_eq_true, Bool.true_eq_false, Bool.not_true, Bool.not_false, Option.bind_some, Option.map_some, Nat.zero_add, ite_true, ite_false, Int.cast_ofNat_Int, Int.natCast_zero, Int.natCast_one, Int.reduceLT, Int.reduceLE, Int.reduceEq, Int.reduceAdd, Int.reduceSub, Int.reduceNeg, decide_true, decide_false, true_and, and_true, le_size, add_ll, add_tt, tuple_lst, tuple_tup, list_tup, list_lst, sl_tup, sl_lst, ii_non_int, ii_non_bool, ii_non_str, ii_non_tuple, ii_non_list, ii_non_dict, ii_bl_int, ii_bl_bool, ii_bl_str, ii_bl_tuple, ii_bl_list, ii_bl_dict, ii_int_int, ii_int_bool, ii_int_str, ii_int_tuple, ii_int_list, ii_int_dict, ii_str_int, ii_str_bool, ii_str_str, ii_str_tuple, ii_str_list, ii_str_dict, ii_tup_int, ii_tup_bool, ii_tup_str, ii_tup_tuple, ii_tup_list, ii_tup_dict, ii_lst_int, ii_lst_bool, ii_lst_str, ii_lst_tuple, ii_lst_list, ii_lst_dict, ii_fz_int, ii_fz_bool, ii_fz_str, ii_fz_tuple, ii_fz_list, ii_fz_dict]
        refine k_App hTr ?_
        simp only [wps, w_C, w_Var, k_Var, w_Bin, k_Bin1, k_Bin2, w_Tst, k_B, w_Chain, k_Ch1, k_Ch2, k_Ch3t, k_Ch3f, k_Ch4, w_And, w_Or, w_Not, k_Andt, k_Andf, k_Ort, k_Orf, k_Not, w_bAnd, w_bOr, w_bNot, w_bYes, k_bAndt, k_bAndf, k_bOrt, k_bOrf, k_bNot, w_dIf, k_dIft, k_dIff, w_aNil, w_aCons, k_Cons1, k_Cons2, w_Tup, w_Lst, w_Cell, k_Tup, k_Lst, k_Cell, w_Call, k_Call, w_CallF, k_CallF, w_CallN, k_CallN, k_New, k_AddN1, w_Un, k_Un, w_Sl, k_Sl1, k_Sl2, k_Sl3, w_No, w_So, k_So, w_iSeq, k_Items, w_Range1, w_Range2, k_Rng1, k_Rng2, w_iEnum, k_Enum, w_Comp, k_Comp, k_AsL, w_TupRg, w_LstRg, k_TupRg, k_LstRg, w_Rev, k_Rev, rev_tup, rev_lst, k_Di1, k_PT1, k_PT2, w_Nil, w_Nop, w_Fl, w_Seq, k_Seqn, k_Seqr, k_Seqb, k_Seqc, w_Expr, k_Drop, w_Ret, k_Ret, w_Set, k_Set, w_Asg, k_Asg1, k_Nx, w_If, k_Ift, k_Iff, w_For, k_For, k_Put1, k_Put2, w_Fun, w_Fun0, k_Funn, k_Funr, w_newK, w_newT, asB_bl, gN, gTupD, gsCons, gsNil, wipeE, itemsOf, seqItems, len_str, add_ii, sub_ii, neg_i, lt_ii, le_ii, gt_ii, ge_ii, eq_ii, ne_ii, eq_ss, ne_ss, isnot_bb, is_bb, is_non, isnot_non, isNonD, ix_tupD, ix_lstD, ix_fzD, at_lit0, at_lit1, at_lit2, at_lit3, len_fz, len_lst, len_tup, List.map_cons, List.map_nil, List.length_cons, List.length_nil, List.getElem?_cons_zero, List.getElem?_cons_succ, List.set_cons_zero, List.set_cons_succ, List.cons_append, List.nil_append, List.replicate_succ, List.replicate_zero, Nat.reduceSub, Nat.reduceAdd, Nat.reduceLeDiff, if_true, if_false, Bool.false_eq_true, Bool.true_eq_false, Bool.not_true, Bool.not_false, Option.bind_some, Option.map_some, Nat.zero_add, ite_true, ite_false, Int.cast_ofNat_Int, Int.natCast_zero, Int.natCast_one, Int.reduceLT, Int.reduceLE, Int.reduceEq, Int.reduceAdd, Int.reduceSub, Int.reduceNeg, decide_true, decide_false, true_and, and_true, le_size, add_ll, add_tt, tuple_lst, tuple_tup, list_tup, list_lst, sl_tup, sl_lst, ii_non_int, ii_non_bool, ii_non_str, ii_non_tuple, ii_non_list, ii_non_dict, ii_bl_int, ii_bl_bool, ii_bl_str, ii_bl_tuple, ii_bl_list, ii_bl_dict, ii_int_int, ii_int_bool, ii_int_str, ii_int_tuple, ii_int_list, ii_int_dict, ii_str_int, ii_str_bool, ii_str_str, ii_str_tuple, ii_str_list, ii_str_dict, ii_tup_int, ii_tup_bool, ii_tup_str, ii_tup_tuple, ii_tup_list, ii_tup_dict, ii_lst_int, ii_lst_bool, ii_lst_str, ii_lst_tuple, ii_lst_list, ii_lst_dict, ii_fz_int, ii_fz_bool, ii_fz_str, ii_fz_tuple, ii_fz_list, ii_fz_dict]
        refine bent_wp r3.dk k1 hc1 hc5 hs1 hsl hst fun rs T1 hrl2 hrs r4 => ?_
        have hT1 := r4.kp _ _ hq hTr
        refine ⟨rows, hT1, by rw [sizeLine_eq]; omega, ?_⟩
        simp only [wps, w_C, w_Var, k_Var, w_Bin, k_Bin1, k_Bin2, w_Tst, k_B, w_Chain, k_Ch1, k_Ch2, k_Ch3t, k_Ch3f, k_Ch4, w_And, w_Or, w_Not, k_Andt, k_Andf, k_Ort, k_Orf, k_Not, w_bAnd, w_bOr, w_bNot, w_bYes, k_bAndt, k_bAndf, k_bOrt, k_bOrf, k_bNot, w_dIf, k_dIft, k_dIff, w_aNil, w_aCons, k_Cons1, k_Cons2, w_Tup, w_Lst, w_Cell, k_Tup, k_Lst, k_Cell, w_Call, k_Call, w_CallF, k_CallF, w_CallN, k_CallN, k_New, k_AddN1, w_Un, k_Un, w_Sl, k_Sl1, k_Sl2, k_Sl3, w_No, w_So, k_So, w_iSeq, k_Items, w_Range1, w_Range2, k_Rng1, k_Rng2, w_iEnum, k_Enum, w_Comp, k_Comp, k_AsL, w_TupRg, w_LstRg, k_TupRg, k_LstRg, w_Rev, k_Rev, rev_tup, rev_lst, k_Di1, k_PT1, k_PT2, w_Nil, w_Nop, w_Fl, w_Seq, k_Seqn, k_Seqr, k_Seqb, k_Seqc, w_Expr, k_Drop, w_Ret, k_Ret, w_Set, k_Set, w_Asg, k_Asg1, k_Nx, w_If, k_Ift, k_Iff, w_For, k_For, k_Put1, k_Put2, w_Fun, w_Fun0, k_Funn, k_Funr, w_newK, w_newT, asB_bl, gN, gTupD, gsCons, gsNil, wipeE, itemsOf, seqItems, len_str, add_ii, sub_ii, neg_i, lt_ii, le_ii, gt_ii, ge_ii, eq_ii, ne_ii, eq_ss, ne_ss, isnot_bb, is_bb, is_non, isnot_non, isNonD, ix_tupD, ix_lstD, ix_fzD, at_lit0, at_lit1, at_lit2, at_lit3, len_fz, len_lst, len_tup, List.map_cons, List.map_nil, List.length_cons, List.length_nil, List.getElem?_cons_zero, List.getElem?_cons_succ, List.set_cons_zero, List.set_cons_succ, List.cons_append, List.nil_append, List.replicate_succ, List.replicate_zero, Nat.reduceSub, Nat.reduceAdd, Nat.reduceLeDiff, if_true, if_false, Bool.false_eq_true, Bool.true_eq_false, Bool.not_true, Bool.not_false, Option.bind_some, Option.map_some, Nat.zero_add, ite_true, ite_false, Int.cast_ofNat_Int, Int.natCast_zero, Int.natCast_one, Int.reduceLT, Int.reduceLE, Int.reduceEq, Int.reduceAdd, Int.reduceSub, Int.reduceNeg, decide_true, decide_false, true_and, and_true, le_size, add_ll, add_tt, tuple_lst, tuple_tup, list_tup, list_lst, sl_tup, sl_lst, ii_non_int, ii_non_bool, ii_non_str, ii_non_tuple, ii_non_list, ii_non_dict, ii_bl_int, ii_bl_bool, ii_bl_str, ii_bl_tuple, ii_bl_list, ii_bl_dict, ii_int_int, ii_int_bool, ii_int_str, ii_int_tuple, ii_int_list, ii_int_dict, ii_str_int, ii_str_bool, ii_str_str, ii_str_tuple, ii_str_list, ii_str_dict, ii_tup_int, ii_tup_bool, ii_tup_str, ii_tup_tuple, ii_tup_list, ii_tup_dict, ii_lst_int, ii_lst_bool, ii_lst_str, ii_lst_tuple, ii_lst_list, ii_lst_dict, ii_fz_int, ii_fz_bool, ii_fz_str, ii_fz_tuple, ii_fz_list, ii_fz_dict]
        refine ⟨_, _, rfl, (r3.trans r4).put _ hq (Nat.le_refl _), set_get hT1, fun d hd => ?_, ?_⟩
        · rcases List.mem_append.mp hd with z | z
          · exact hrows d z
          · rw [List.mem_singleton.mp z]; exact ⟨rs, rfl, by omega, fun g hgm => by have := hrs g hgm; omega⟩
        · rw [List.length_append]
          rw [List.length_cons] at hrl
          show rows.length + 1 + rest.length ≤ 10
          omega
      · obtain ⟨e6, rows, e, r3, hTr, hrows, hrl⟩ := hI
        subst e
        simp only [wps, w_C, w_Var, k_Var, w_Bin, k_Bin1, k_Bin2, w_Tst, k_B, w_Chain, k_Ch1, k_Ch2, k_Ch3t, k_Ch3f, k_Ch4, w_And, w_Or, w_Not, k_Andt, k_Andf, k_Ort, k_Orf, k_Not, w_bAnd, w_bOr, w_bNot, w_bYes, k_bAndt, k_bAndf, k_bOrt, k_bOrf, k_bNot, w_dIf, k_dIft, k_dIff, w_aNil, w_aCons, k_Cons1, k_Cons2, w_Tup, w_Lst, w_Cell, k_Tup, k_Lst, k_Cell, w_Call, k_Call, w_CallF, k_CallF, w_CallN, k_CallN, k_New, k_AddN1, w_Un, k_Un, w_Sl, k_Sl1, k_Sl2, k_Sl3, w_No, w_So, k_So, w_iSeq, k_Items, w_Range1, w_Range2, k_Rng1, k_Rng2, w_iEnum, k_Enum, w_Comp, k_Comp, k_AsL, w_TupRg, w_LstRg, k_TupRg, k_LstRg, w_Rev, k_Rev, rev_tup, rev_lst, k_Di1, k_PT1, k_PT2, w_Nil, w_Nop, w_Fl, w_Seq, k_Seqn, k_Seqr, k_Seqb, k_Seqc, w_Expr, k_Drop, w_Ret, k_Ret, w_Set, k_Set, w_Asg, k_Asg1, k_Nx, w_If, k_Ift, k_Iff, w_For, k_For, k_Put1, k_Put2, w_Fun, w_Fun0, k_Funn, k_Funr, w_newK, w_newT, asB_bl, gN, gTupD, gsCons, gsNil, wipeE, itemsOf, seqItems, len_str, add_ii, sub_ii, neg_i, lt_ii, le_ii, gt_ii, ge_ii, eq_ii, ne_ii, eq_ss, ne_ss, isnot_bb, is_bb, is_non, isnot_non, isNonD, ix_tupD, ix_lstD, ix_fzD, at_lit0, at_lit1, at_lit2, at_lit3, len_fz, len_lst, len_tup, List.map_cons, List.map_nil, List.length_cons, List.length_nil, List.getElem?_cons_zero, List.getElem?_cons_succ, List.set_cons_zero, List.set_cons_succ, List.cons_append, List.nil_append, List.replicate_succ, List.replicate_zero, Nat.reduceSub, Nat.reduceAdd, Nat.reduceLeDiff, if_true, if_false, Bool.false_eq_true, Bool.true_eq_false, Bool.not_true, Bool.not_false, Option.bind_some, Option.map_some, Nat.zero_add, ite_true, ite_false, Int.cast_ofNat_Int, Int.natCast_zero, Int.natCast_one, Int.reduceLT, Int.reduceLE, Int.reduceEq, Int.reduceAdd, Int.reduceSub, Int.reduceNeg, decide_true, decide_false, true_and, and_true, le_size, add_ll, add_tt, tuple_lst, tuple_tup, list_tup, list_lst, sl_tup, sl_lst, ii_non_int, ii_non_bool, ii_non_str, ii_non_tuple, ii_non_list, ii_non_dict, ii_bl_int, ii_bl_bool, ii_bl_str, ii_bl_tuple, ii_bl_list, ii_bl_dict, ii_int_int, ii_int_bool, ii_int_str, ii_int_tuple, ii_int_list, ii_int_dict, ii_str_int, ii_str_bool, ii_str_str, ii_str_tuple, ii_str_list, ii_str_dict, ii_tup_int, ii_tup_bool, ii_tup_str, ii_tup_tuple, ii_tup_list, ii_tup_dict, ii_lst_int, ii_lst_bool, ii_lst_str, ii_lst_tuple, ii_lst_list, ii_lst_dict, ii_fz_int, ii_fz_bool, ii_fz_str, ii_fz_tuple, ii_fz_list, ii_fz_dict]
        refine w_ForC ?_
        simp only [wps, w_C, w_Var, k_Var, w_Bin, k_Bin1, k_Bin2, w_Tst, k_B, w_Chain, k_Ch1, k_Ch2, k_Ch3t, k_Ch3f, k_Ch4, w_And, w_Or, w_Not, k_Andt, k_Andf, k_Ort, k_Orf, k_Not, w_bAnd, w_bOr, w_bNot, w_bYes, k_bAndt, k_bAndf, k_bOrt, k_bOrf, k_bNot, w_dIf, k_dIft, k_dIff, w_aNil, w_aCons, k_Cons1, k_Cons2, w_Tup, w_Lst, w_Cell, k_Tup, k_Lst, k_Cell, w_Call, k_Call, w_CallF, k_CallF, w_CallN, k_CallN, k_New, k_AddN1, w_Un, k_Un, w_Sl, k_Sl1, k_Sl2, k_Sl3, w_No, w_So, k_So, w_iSeq, k_Items, w_Range1, w_Range2, k_Rng1, k_Rng2, w_iEnum, k_Enum, w_Comp, k_Comp, k_AsL, w_TupRg, w_LstRg, k_TupRg, k_LstRg, w_Rev, k_Rev, rev_tup, rev_lst, k_Di1, k_PT1, k_PT2, w_Nil, w_Nop, w_Fl, w_Seq, k_Seqn, k_Seqr, k_Seqb, k_Seqc, w_Expr, k_Drop, w_Ret, k_Ret, w_Set, k_Set, w_Asg, k_Asg1, k_Nx, w_If, k_Ift, k_Iff, w_For, k_For, k_Put1, k_Put2, w_Fun, w_Fun0, k_Funn, k_Funr, w_newK, w_newT, asB_bl, gN, gTupD, gsCons, gsNil, wipeE, itemsOf, seqItems, len_str, add_ii, sub_ii, neg_i, lt_ii, le_ii, gt_ii, ge_ii, eq_ii, ne_ii, eq_ss, ne_ss, isnot_bb, is_bb, is_non, isnot_non, isNonD, ix_tupD, ix_lstD, ix_fzD, at_lit0, at_lit1, at_lit2, at_lit3, len_fz, len_lst, len_tup, List.map_cons, List.map_nil, List.length_cons, List.length_nil, List.getElem?_cons_zero, List.getElem?_cons_succ, List.set_cons_zero, List.set_cons_succ, List.cons_append, List.nil_append, List.replicate_succ, List.replicate_zero, Nat.reduceSub, Nat.reduceAdd, Nat.reduceLeDiff, if_true, if_false, Bool.false_eq_true, Bool.true_eq_false, Bool.not_true, Bool.not_false, Option.bind_some, Option.map_some, Nat.zero_add, ite_true, ite_false, Int.cast_ofNat_Int, Int.natCast_zero, Int.natCast_one, Int.reduceLT, Int.reduceLE, Int.reduceEq, Int.reduceAdd, Int.reduceSub, Int.reduceNeg, decide_true, decide_false, true_and, and_true, le_size, add_ll, add_tt, tuple_lst, tuple_tup, list_tup, list_lst, sl_tup, sl_lst, ii_non_int, ii_non_bool, ii_non_str, ii_non_tuple, ii_non_list, ii_non_dict, ii_bl_int, ii_bl_bool, ii_bl_str, ii_bl_tuple, ii_bl_list, ii_bl_dict, ii_int_int, ii_int_bool, ii_int_str, ii_int_tuple, ii_int_list, ii_int_dict, ii_str_int, ii_str_bool, ii_str_str, ii_str_tuple, ii_str_list, ii_str_dict, ii_tup_int, ii_tup_bool, ii_tup_str, ii_tup_tuple, ii_tup_list, ii_tup_dict, ii_lst_int, ii_lst_bool, ii_lst_str, ii_lst_tuple, ii_lst_list, ii_lst_dict, ii_fz_int, ii_fz_bool, ii_fz_str, ii_fz_tuple, ii_fz_list, ii_fz_dict]
        refine ⟨S2.length, rows, rfl, hTr, ?_⟩
        refine forGoC_all (fun rest env U => ∃ e6 e7 e8 e9, env = [some (.fz (ns.map D.int)), some (.ref 0), some (.int (0 + (i : Int))), some (.tup [.int k, .tup (cs.map D.int)]), some (.lst (stands.map tupI)), some (.ref S2.length), e6, e7, e8, e9] ∧ U = T ∧ ∀ d ∈ rest, RowI d) _ _ _
          ⟨_, _, _, _, rfl, rfl, hrows⟩ (fun ds env U hI => ?_) (fun d rest env U hI => ?_) fun env U hI => ?_
        · obtain ⟨e6, e7, e8, e9, e, eU, h⟩ := hI
          rw [eU]; exact hTr
        · obtain ⟨e6, e7, e8, e9, e, eU, h⟩ := hI
          subst e eU
          obtain ⟨rs, er, hrl2, hrs⟩ := h d List.mem_cons_self
          subst er
          refine ⟨_, rfl, ?_⟩
          have hsame : oNe U (.lst (rs.map tupI)) (.lst (rs.map tupI)) = some (.bl (!decide (D.lst (rs.map tupI) = .lst (rs.map tupI)))) := ne_pl rfl (plL_tupI 62 rs) (plL_tupI 62 rs)
          simp only [wps, w_C, w_Var, k_Var, w_Bin, k_Bin1, k_Bin2, w_Tst, k_B, w_Chain, k_Ch1, k_Ch2, k_Ch3t, k_Ch3f, k_Ch4, w_And, w_Or, w_Not, k_Andt, k_Andf, k_Ort, k_Orf, k_Not, w_bAnd, w_bOr, w_bNot, w_bYes, k_bAndt, k_bAndf, k_bOrt, k_bOrf, k_bNot, w_dIf, k_dIft, k_dIff, w_aNil, w_aCons, k_Cons1, k_Cons2, w_Tup, w_Lst, w_Cell, k_Tup, k_Lst, k_Cell, w_Call, k_Call, w_CallF, k_CallF, w_CallN, k_CallN, k_New, k_AddN1, w_Un, k_Un, w_Sl, k_Sl1, k_Sl2, k_Sl3, w_No, w_So, k_So, w_iSeq, k_Items, w_Range1, w_Range2, k_Rng1, k_Rng2, w_iEnum, k_Enum, w_Comp, k_Comp, k_AsL, w_TupRg, w_LstRg, k_TupRg, k_LstRg, w_Rev, k_Rev, rev_tup, rev_lst, k_Di1, k_PT1, k_PT2, w_Nil, w_Nop, w_Fl, w_Seq, k_Seqn, k_Seqr, k_Seqb, k_Seqc, w_Expr, k_Drop, w_Ret, k_Ret, w_Set, k_Set, w_Asg, k_Asg1, k_Nx, w_If, k_Ift, k_Iff, w_For, k_For, k_Put1, k_Put2, w_Fun, w_Fun0, k_Funn, k_Funr, w_newK, w_newT, asB_bl, gN, gTupD, gsCons, gsNil, wipeE, itemsOf, seqItems, len_str, add_ii, sub_ii, neg_i, lt_ii, le_ii, gt_ii, ge_ii, eq_ii, ne_ii, eq_ss, ne_ss, isnot_bb, is_bb, is_non, isnot_non, isNonD, ix_tupD, ix_lstD, ix_fzD, at_lit0, at_lit1, at_lit2, at_lit3, len_fz, len_lst, len_tup, List.map_cons, List.map_nil, List.length_cons, List.length_nil, List.getElem?_cons_zero, List.getElem?_cons_succ, List.set_cons_zero, List.set_cons_succ, List.cons_append, List.nil_append, List.replicate_succ, List.replicate_zero, Nat.reduceSub, Nat.reduceAdd, Nat.reduceLeDiff, if_true, if_false, Bool.false_eq_true, Bool.true_eq_false, Bool.not_true, Bool.not_false, Option.bind_some, Option.map_some, Nat.zero_add, ite_true, ite_false, Int.cast_ofNat_Int, Int.natCast_zero, Int.natCast_one, Int.reduceLT, Int.reduceLE, Int.reduceEq, Int.reduceAdd, Int.reduceSub, Int.reduceNeg, decide_true, decide_false, true_and, and_true, le_size, add_ll, add_tt, tuple_lst, tuple_tup, list_tup, list_lst, sl_tup, sl_lst, ii_non_int, ii_non_bool, ii_non_str, ii_non_tuple, ii_non_list, ii_non_dict, ii_bl_int, ii_bl_bool, ii_bl_str, ii_bl_tuple, ii_bl_list, ii_bl_dict, ii_int_int, ii_int_bool, ii_int_str, ii_int_tuple, ii_int_list, ii_int_dict, ii_str_int, ii_str_bool, ii_str_str, ii_str_tuple, ii_str_list, ii_str_dict, ii_tup_int, ii_tup_bool, ii_tup_str, ii_tup_tuple, ii_tup_list, ii_tup_dict, ii_lst_int, ii_lst_bool, ii_lst_str, ii_lst_tuple, ii_lst_list, ii_lst_dict, ii_fz_int, ii_fz_bool, ii_fz_str, ii_fz_tuple, ii_fz_list, ii_fz_dict, listA_lst]
          refine ever_wp hM hrl2 hrs ?_
          simp only [wps, w_C, w_Var, k_Var, w_Bin, k_Bin1, k_Bin2, w_Tst, k_B, w_Chain, k_Ch1, k_Ch2, k_Ch3t, k_Ch3f, k_Ch4, w_And, w_Or, w_Not, k_Andt, k_Andf, k_Ort, k_Orf, k_Not, w_bAnd, w_bOr, w_bNot, w_bYes, k_bAndt, k_bAndf, k_bOrt, k_bOrf, k_bNot, w_dIf, k_dIft, k_dIff, w_aNil, w_aCons, k_Cons1, k_Cons2, w_Tup, w_Lst, w_Cell, k_Tup, k_Lst, k_Cell, w_Call, k_Call, w_CallF, k_CallF, w_CallN, k_CallN, k_New, k_AddN1, w_Un, k_Un, w_Sl, k_Sl1, k_Sl2, k_Sl3, w_No, w_So, k_So, w_iSeq, k_Items, w_Range1, w_Range2, k_Rng1, k_Rng2, w_iEnum, k_Enum, w_Comp, k_Comp, k_AsL, w_TupRg, w_LstRg, k_TupRg, k_LstRg, w_Rev, k_Rev, rev_tup, rev_lst, k_Di1, k_PT1, k_PT2, w_Nil, w_Nop, w_Fl, w_Seq, k_Seqn, k_Seqr, k_Seqb, k_Seqc, w_Expr, k_Drop, w_Ret, k_Ret, w_Set, k_Set, w_Asg, k_Asg1, k_Nx, w_If, k_Ift, k_Iff, w_For, k_For, k_Put1, k_Put2, w_Fun, w_Fun0, k_Funn, k_Funr, w_newK, w_newT, asB_bl, gN, gTupD, gsCons, gsNil, wipeE, itemsOf, seqItems, len_str, add_ii, sub_ii, neg_i, lt_ii, le_ii, gt_ii, ge_ii, eq_ii, ne_ii, eq_ss, ne_ss, isnot_bb, is_bb, is_non, isnot_non, isNonD, ix_tupD, ix_lstD, ix_fzD, at_lit0, at_lit1, at_lit2, at_lit3, len_fz, len_lst, len_tup, List.map_cons, List.map_nil, List.length_cons, List.length_nil, List.getElem?_cons_zero, List.getElem?_cons_succ, List.set_cons_zero, List.set_cons_succ, List.cons_append, List.nil_append, List.replicate_succ, List.replicate_zero, Nat.reduceSub, Nat.reduceAdd, Nat.reduceLeDiff, if_true, if_false, Bool.false_eq_true, Bool.true_eq_false, Bool.not_true, Bool.not_false, Option.bind_some, Option.map_some, Nat.zero_add, ite_true, ite_false, Int.cast_ofNat_Int, Int.natCast_zero, Int.natCast_one, Int.reduceLT, Int.reduceLE, Int.reduceEq, Int.reduceAdd, Int.reduceSub, Int.reduceNeg, decide_true, decide_false, true_and, and_true, le_size, add_ll, add_tt, tuple_lst, tuple_tup, list_tup, list_lst, sl_tup, sl_lst, ii_non_int, ii_non_bool, ii_non_str, ii_non_tuple, ii_non_list, ii_non_dict, ii_bl_int, ii_bl_bool, ii_bl_str, ii_bl_tuple, ii_bl_list, ii_bl_dict, ii_int_int, ii_int_bool, ii_int_str, ii_int_tuple, ii_int_list, ii_int_dict, ii_str_int, ii_str_bool, ii_str_str, ii_str_tuple, ii_str_list, ii_str_dict, ii_tup_int, ii_tup_bool, ii_tup_str, ii_tup_tuple, ii_tup_list, ii_tup_dict, ii_lst_int, ii_lst_bool, ii_lst_str, ii_lst_tuple, ii_lst_list, ii_lst_dict, ii_fz_int, ii_fz_bool, ii_fz_str, ii_fz_tuple, ii_fz_list, ii_fz_dict]
          refine due_wp hM hrl2 hrs ?_
          simp only [wps, w_C, w_Var, k_Var, w_Bin, k_Bin1, k_Bin2, w_Tst, k_B, w_Chain, k_Ch1, k_Ch2, k_Ch3t, k_Ch3f, k_Ch4, w_And, w_Or, w_Not, k_Andt, k_Andf, k_Ort, k_Orf, k_Not, w_bAnd, w_bOr, w_bNot, w_bYes, k_bAndt, k_bAndf, k_bOrt, k_bOrf, k_bNot, w_dIf, k_dIft, k_dIff, w_aNil, w_aCons, k_Cons1, k_Cons2, w_Tup, w_Lst, w_Cell, k_Tup, k_Lst, k_Cell, w_Call, k_Call, w_CallF, k_CallF, w_CallN, k_CallN, k_New, k_AddN1, w_Un, k_Un, w_Sl, k_Sl1, k_Sl2, k_Sl3, w_No, w_So, k_So, w_iSeq, k_Items, w_Range1, w_Range2, k_Rng1, k_Rng2, w_iEnum, k_Enum, w_Comp, k_Comp, k_AsL, w_TupRg, w_LstRg, k_TupRg, k_LstRg, w_Rev, k_Rev, rev_tup, rev_lst, k_Di1, k_PT1, k_PT2, w_Nil, w_Nop, w_Fl, w_Seq, k_Seqn, k_Seqr, k_Seqb, k_Seqc, w_Expr, k_Drop, w_Ret, k_Ret, w_Set, k_Set, w_Asg, k_Asg1, k_Nx, w_If, k_Ift, k_Iff, w_For, k_For, k_Put1, k_Put2, w_Fun, w_Fun0, k_Funn, k_Funr, w_newK, w_newT, asB_bl, gN, gTupD, gsCons, gsNil, wipeE, itemsOf, seqItems, len_str, add_ii, sub_ii, neg_i, lt_ii, le_ii, gt_ii, ge_ii, eq_ii, ne_ii, eq_ss, ne_ss, isnot_bb, is_bb, is_non, isnot_non, isNonD, ix_tupD, ix_lstD, ix_fzD, at_lit0, at_lit1, at_lit2, at_lit3, len_fz, len_lst, len_tup, List.map_cons, List.map_nil, List.length_cons, List.length_nil, List.getElem?_cons_zero, List.getElem?_cons_succ, List.set_cons_zero, List.set_cons_succ, List.cons_append, List.nil_append, List.replicate_succ, List.replicate_zero, Nat.reduceSub, Nat.reduceAdd, Nat.reduceLeDiff, if_true, if_false, Bool.false_eq_true, Bool.true_eq_false, Bool.not_true, Bool.not_false, Option.bind_some, Option.map_some, Nat.zero_add, ite_true, ite_false, Int.cast_ofNat_Int, Int.natCast_zero, Int.natCast_one, Int.reduceLT, Int.reduceLE, Int.reduceEq, Int.reduceAdd, Int.reduceSub, Int.reduceNeg, decide_true, decide_false, true_and, and_true, le_size, add_ll, add_tt, tuple_lst, tuple_tup, list_tup, list_lst, sl_tup, sl_lst, ii_non_int, ii_non_bool, ii_non_str, ii_non_tuple, ii_non_list, ii_non_dict, ii_bl_int, ii_bl_bool, ii_bl_str, ii_bl_tuple, ii_bl_list, ii_bl_dict, ii_int_int, ii_int_bool, ii_int_str, ii_int_tuple, ii_int_list, ii_int_dict, ii_str_int, ii_str_bool, ii_str_str, ii_str_tuple, ii_str_list, ii_str_dict, ii_tup_int, ii_tup_bool, ii_tup_str, ii_tup_tuple, ii_tup_list, ii_tup_dict, ii_lst_int, ii_lst_bool, ii_lst_str, ii_lst_tuple, ii_lst_list, ii_lst_dict, ii_fz_int, ii_fz_bool, ii_fz_str, ii_fz_tuple, ii_fz_list, ii_fz_dict, ne_same, hsame]
          exact ⟨_, _, _, _, rfl, fun d hd => h d (List.mem_cons_of_mem _ hd)⟩
        · obtain ⟨e6, e7, e8, e9, e, eU, h⟩ := hI
          subst e eU
          exact ⟨_, _, _, _, _, _, _, _, rfl, r3.dk⟩
    · intro env T hI
      obtain ⟨e2, e3, e4, e5, e6, e7, e8, e9, e, hT⟩ := hI
      subst e
      simp only [wps, w_C, w_Var, k_Var, w_Bin, k_Bin1, k_Bin2, w_Tst, k_B, w_Chain, k_Ch1, k_Ch2, k_Ch3t, k_Ch3f, k_Ch4, w_And, w_Or, w_Not, k_Andt, k_Andf, k_Ort, k_Orf, k_Not, w_bAnd, w_bOr, w_bNot, w_bYes, k_bAndt, k_bAndf, k_bOrt, k_bOrf, k_bNot, w_dIf, k_dIft, k_dIff, w_aNil, w_aCons, k_Cons1, k_Cons2, w_Tup, w_Lst, w_Cell, k_Tup, k_Lst, k_Cell, w_Call, k_Call, w_CallF, k_CallF, w_CallN, k_CallN, k_New, k_AddN1, w_Un, k_Un, w_Sl, k_Sl1, k_Sl2, k_Sl3, w_No, w_So, k_So, w_iSeq, k_Items, w_Range1, w_Range2, k_Rng1, k_Rng2, w_iEnum, k_Enum, w_Comp, k_Comp, k_AsL, w_TupRg, w_LstRg, k_TupRg, k_LstRg, w_Rev, k_Rev, rev_tup, rev_lst, k_Di1, k_PT1, k_PT2, w_Nil, w_Nop, w_Fl, w_Seq, k_Seqn, k_Seqr, k_Seqb, k_Seqc, w_Expr, k_Drop, w_Ret, k_Ret, w_Set, k_Set, w_Asg, k_Asg1, k_Nx, w_If, k_Ift, k_Iff, w_For, k_For, k_Put1, k_Put2, w_Fun, w_Fun0, k_Funn, k_Funr, w_newK, w_newT, asB_bl, gN, gTupD, gsCons, gsNil, wipeE, itemsOf, seqItems, len_str, add_ii, sub_ii, neg_i, lt_ii, le_ii, gt_ii, ge_ii, eq_ii, ne_ii, eq_ss, ne_ss, isnot_bb, is_bb, is_non, isnot_non, isNonD, ix_tupD, ix_lstD, ix_fzD, at_lit0, at_lit1, at_lit2, at_lit3, len_fz, len_lst, len_tup, List.map_cons, List.map_nil, List.length_cons, List.length_nil, List.getElem?_cons_zero, List.getElem?_cons_succ, List.set_cons_zero, List.set_cons_succ, List.cons_append, List.nil_append, List.replicate_succ, List.replicate_zero, Nat.reduceSub, Nat.reduceAdd, Nat.reduceLeDiff, if_true, if_false, Bool.false_eq_true, Bool.true_eq_false, Bool.not_true, Bool.not_false, Option.bind_some, Option.map_some, Nat.zero_add, ite_true, ite_false, Int.cast_ofNat_Int, Int.natCast_zero, Int.natCast_one, Int.reduceLT, Int.reduceLE, Int.reduceEq, Int.reduceAdd, Int.reduceSub, Int.reduceNeg, decide_true, decide_false, true_and, and_true, le_size, add_ll, add_tt, tuple_lst, tuple_tup, list_tup, list_lst, sl_tup, sl_lst, ii_non_int, ii_non_bool, ii_non_str, ii_non_tuple, ii_non_list, ii_non_dict, ii_bl_int, ii_bl_bool, ii_bl_str, ii_bl_tuple, ii_bl_list, ii_bl_dict, ii_int_int, ii_int_bool, ii_int_str, ii_int_tuple, ii_int_list, ii_int_dict, ii_str_int, ii_str_bool, ii_str_str, ii_str_tuple, ii_str_list, ii_str_dict, ii_tup_int, ii_tup_bool, ii_tup_str, ii_tup_tuple, ii_tup_list, ii_tup_dict, ii_lst_int, ii_lst_bool, ii_lst_str, ii_lst_tuple, ii_lst_list, ii_lst_dict, ii_fz_int, ii_fz_bool, ii_fz_str, ii_fz_tuple, ii_fz_list, ii_fz_dict]
  obtain ⟨d, S, e, ed⟩ := w.get
  subst ed
  exact ⟨S, e⟩
end G
end DL
end L2

set_option Elab.async false
set_option linter.all false
set_option maxRecDepth 100000
namespace L2
namespace DL
namespace G
open PySem PySem.Spec PyProof.Rows
theorem all_mk {l : PySem.W.OpenLaw} {w : World} {K : PySem.W.Frag} {h : Heap} {mg : Str → Option Value} {fa f0 f1 f2 f3 f4 f5 f6 f7 f8 f9 f10 f11 f12 f13 f14 : Addr} (X : K.In h) (G : h.Ns mainGlobals mg) (hfa : mg "law" = some (.ref fa))
    {od0 an0 : Option Addr} {sl0 : Array (Option Value)} {oc0 kV0 dc0 pm0 cd0 ct0 : Value}
    (a0 : PySem.W.nsIn K mainGlobals "is_count" = some (some (.ref f0))) (l0 : K.lookup f0 = some ⟨oc0, od0, .func (PySem.W.fnOf "is_count" "is_count" (defArgs st_is_count) (defBody st_is_count) (defScope st_is_count) .none kV0 dc0 pm0 an0 cd0 ct0), sl0⟩) (c0 : PySem.W.codeIn K cd0 "is_count" = true) (k0 : PySem.W.keepIn K (.ref f0) = true)
    {od1 an1 : Option Addr} {sl1 : Array (Option Value)} {oc1 kV1 dc1 pm1 cd1 ct1 : Value}
    (a1 : PySem.W.nsIn K mainGlobals "is_counted" = some (some (.ref f1))) (l1 : K.lookup f1 = some ⟨oc1, od1, .func (PySem.W.fnOf "is_counted" "is_counted" (defArgs st_is_counted) (defBody st_is_counted) (defScope st_is_counted) .none kV1 dc1 pm1 an1 cd1 ct1), sl1⟩) (c1 : PySem.W.codeIn K cd1 "is_counted" = true) (k1 : PySem.W.keepIn K (.ref f1) = true)
    {od2 an2 : Option Addr} {sl2 : Array (Option Value)} {oc2 kV2 dc2 pm2 cd2 ct2 : Value}
    (a2 : PySem.W.nsIn K mainGlobals "need_counted" = some (some (.ref f2))) (l2 : K.lookup f2 = some ⟨oc2, od2, .func (PySem.W.fnOf "need_counted" "need_counted" (defArgs st_need_counted) (defBody st_need_counted) (defScope st_need_counted) .none kV2 dc2 pm2 an2 cd2 ct2), sl2⟩) (c2 : PySem.W.codeIn K cd2 "need_counted" = true) (k2 : PySem.W.keepIn K (.ref f2) = true)
    {od3 an3 : Option Addr} {sl3 : Array (Option Value)} {oc3 kV3 dc3 pm3 cd3 ct3 : Value}
    (a3 : PySem.W.nsIn K mainGlobals "groups_of" = some (some (.ref f3))) (l3 : K.lookup f3 = some ⟨oc3, od3, .func (PySem.W.fnOf "groups_of" "groups_of" (defArgs st_groups_of) (defBody st_groups_of) (defScope st_groups_of) .none kV3 dc3 pm3 an3 cd3 ct3), sl3⟩) (c3 : PySem.W.codeIn K cd3 "groups_of" = true) (k3 : PySem.W.keepIn K (.ref f3) = true)
    {od4 an4 : Option Addr} {sl4 : Array (Option Value)} {oc4 kV4 dc4 pm4 cd4 ct4 : Value}
    (a4 : PySem.W.nsIn K mainGlobals "behind_meeting" = some (some (.ref f4))) (l4 : K.lookup f4 = some ⟨oc4, od4, .func (PySem.W.fnOf "behind_meeting" "behind_meeting" (defArgs st_behind_meeting) (defBody st_behind_meeting) (defScope st_behind_meeting) .none kV4 dc4 pm4 an4 cd4 ct4), sl4⟩) (c4 : PySem.W.codeIn K cd4 "behind_meeting" = true) (k4 : PySem.W.keepIn K (.ref f4) = true)
    {od5 an5 : Option Addr} {sl5 : Array (Option Value)} {oc5 kV5 dc5 pm5 cd5 ct5 : Value}
    (a5 : PySem.W.nsIn K mainGlobals "are_ever" = some (some (.ref f5))) (l5 : K.lookup f5 = some ⟨oc5, od5, .func (PySem.W.fnOf "are_ever" "are_ever" (defArgs st_are_ever) (defBody st_are_ever) (defScope st_are_ever) .none kV5 dc5 pm5 an5 cd5 ct5), sl5⟩) (c5 : PySem.W.codeIn K cd5 "are_ever" = true) (k5 : PySem.W.keepIn K (.ref f5) = true)
    {od6 an6 : Option Addr} {sl6 : Array (Option Value)} {oc6 kV6 dc6 pm6 cd6 ct6 : Value}
    (a6 : PySem.W.nsIn K mainGlobals "_law_e_mixed" = some (some (.ref f6))) (l6 : K.lookup f6 = some ⟨oc6, od6, .func (PySem.W.fnOf "_law_e_mixed" "_law_e_mixed" (defArgs st__law_e_mixed) (defBody st__law_e_mixed) (defScope st__law_e_mixed) .none kV6 dc6 pm6 an6 cd6 ct6), sl6⟩) (c6 : PySem.W.codeIn K cd6 "_law_e_mixed" = true) (k6 : PySem.W.keepIn K (.ref f6) = true)
    {od7 an7 : Option Addr} {sl7 : Array (Option Value)} {oc7 kV7 dc7 pm7 cd7 ct7 : Value}
    (a7 : PySem.W.nsIn K mainGlobals "_law_e_pick" = some (some (.ref f7))) (l7 : K.lookup f7 = some ⟨oc7, od7, .func (PySem.W.fnOf "_law_e_pick" "_law_e_pick" (defArgs st__law_e_pick) (defBody st__law_e_pick) (defScope st__law_e_pick) .none kV7 dc7 pm7 an7 cd7 ct7), sl7⟩) (c7 : PySem.W.codeIn K cd7 "_law_e_pick" = true) (k7 : PySem.W.keepIn K (.ref f7) = true)
    {od8 an8 : Option Addr} {sl8 : Array (Option Value)} {oc8 kV8 dc8 pm8 cd8 ct8 : Value}
    (a8 : PySem.W.nsIn K mainGlobals "_law_e_meeting" = some (some (.ref f8))) (l8 : K.lookup f8 = some ⟨oc8, od8, .func (PySem.W.fnOf "_law_e_meeting" "_law_e_meeting" (defArgs st__law_e_meeting) (defBody st__law_e_meeting) (defScope st__law_e_meeting) .none kV8 dc8 pm8 an8 cd8 ct8), sl8⟩) (c8 : PySem.W.codeIn K cd8 "_law_e_meeting" = true) (k8 : PySem.W.keepIn K (.ref f8) = true)
    {od9 an9 : Option Addr} {sl9 : Array (Option Value)} {oc9 kV9 dc9 pm9 cd9 ct9 : Value}
    (a9 : PySem.W.nsIn K mainGlobals "_law_e_groups" = some (some (.ref f9))) (l9 : K.lookup f9 = some ⟨oc9, od9, .func (PySem.W.fnOf "_law_e_groups" "_law_e_groups" (defArgs st__law_e_groups) (defBody st__law_e_groups) (defScope st__law_e_groups) .none kV9 dc9 pm9 an9 cd9 ct9), sl9⟩) (c9 : PySem.W.codeIn K cd9 "_law_e_groups" = true) (k9 : PySem.W.keepIn K (.ref f9) = true)
    {od10 an10 : Option Addr} {sl10 : Array (Option Value)} {oc10 kV10 dc10 pm10 cd10 ct10 : Value}
    (a10 : PySem.W.nsIn K mainGlobals "_law_e_met" = some (some (.ref f10))) (l10 : K.lookup f10 = some ⟨oc10, od10, .func (PySem.W.fnOf "_law_e_met" "_law_e_met" (defArgs st__law_e_met) (defBody st__law_e_met) (defScope st__law_e_met) .none kV10 dc10 pm10 an10 cd10 ct10), sl10⟩) (c10 : PySem.W.codeIn K cd10 "_law_e_met" = true) (k10 : PySem.W.keepIn K (.ref f10) = true)
    {od11 an11 : Option Addr} {sl11 : Array (Option Value)} {oc11 kV11 dc11 pm11 cd11 ct11 : Value}
    (a11 : PySem.W.nsIn K mainGlobals "_law_e_search" = some (some (.ref f11))) (l11 : K.lookup f11 = some ⟨oc11, od11, .func (PySem.W.fnOf "_law_e_search" "_law_e_search" (defArgs st__law_e_search) (defBody st__law_e_search) (defScope st__law_e_search) .none kV11 dc11 pm11 an11 cd11 ct11), sl11⟩) (c11 : PySem.W.codeIn K cd11 "_law_e_search" = true) (k11 : PySem.W.keepIn K (.ref f11) = true)
    {od12 an12 : Option Addr} {sl12 : Array (Option Value)} {oc12 kV12 dc12 pm12 cd12 ct12 : Value}
    (a12 : PySem.W.nsIn K mainGlobals "_law_e_due" = some (some (.ref f12))) (l12 : K.lookup f12 = some ⟨oc12, od12, .func (PySem.W.fnOf "_law_e_due" "_law_e_due" (defArgs st__law_e_due) (defBody st__law_e_due) (defScope st__law_e_due) .none kV12 dc12 pm12 an12 cd12 ct12), sl12⟩) (c12 : PySem.W.codeIn K cd12 "_law_e_due" = true) (k12 : PySem.W.keepIn K (.ref f12) = true)
    {od13 an13 : Option Addr} {sl13 : Array (Option Value)} {oc13 kV13 dc13 pm13 cd13 ct13 : Value}
    (a13 : PySem.W.nsIn K mainGlobals "_law_e_bent" = some (some (.ref f13))) (l13 : K.lookup f13 = some ⟨oc13, od13, .func (PySem.W.fnOf "_law_e_bent" "_law_e_bent" (defArgs st__law_e_bent) (defBody st__law_e_bent) (defScope st__law_e_bent) .none kV13 dc13 pm13 an13 cd13 ct13), sl13⟩) (c13 : PySem.W.codeIn K cd13 "_law_e_bent" = true) (k13 : PySem.W.keepIn K (.ref f13) = true)
    {od14 an14 : Option Addr} {sl14 : Array (Option Value)} {oc14 kV14 dc14 pm14 cd14 ct14 : Value}
    (a14 : PySem.W.nsIn K mainGlobals "law" = some (some (.ref f14))) (l14 : K.lookup f14 = some ⟨oc14, od14, .func (PySem.W.fnOf "law" "law" (defArgs st_law) (defBody st_law) (defScope st_law) .none kV14 dc14 pm14 an14 cd14 ct14), sl14⟩) (c14 : PySem.W.codeIn K cd14 "law" = true) (k14 : PySem.W.keepIn K (.ref f14) = true)
    (z_isinstance : PySem.W.nsIn K mainGlobals "isinstance" = some none)
    (z_int : PySem.W.nsIn K mainGlobals "int" = some none)
    (z_bool : PySem.W.nsIn K mainGlobals "bool" = some none)
    (z_tuple : PySem.W.nsIn K mainGlobals "tuple" = some none)
    (z_len : PySem.W.nsIn K mainGlobals "len" = some none)
    (z_all : PySem.W.nsIn K mainGlobals "all" = some none)
    (z_enumerate : PySem.W.nsIn K mainGlobals "enumerate" = some none)
    (z_sum : PySem.W.nsIn K mainGlobals "sum" = some none)
    (z_range : PySem.W.nsIn K mainGlobals "range" = some none)
    (z_sorted : PySem.W.nsIn K mainGlobals "sorted" = some none)
    (z_list : PySem.W.nsIn K mainGlobals "list" = some none)
    (z_min : PySem.W.nsIn K mainGlobals "min" = some none)
    : ∃ fd : FuncData, (∀ (s : Shared) (v : Value), BindsTo s fd ⟨[v], []⟩ [("script", v)]) ∧ ∀ base : Heap, K.In base → base.Ns mainGlobals mg → FnOk l.prog w K mg base CX0 5 fa fd ["script"] (spLaw K) := by
  have e := hfa.symm.trans (PySem.W.mg_of X G a14)
  cases e
  have F0 := fun_mk (st := st_is_count) l0 c0 k0
  have b0 := F0.binds (ps := ["thing"]) fun _ _ _ _ _ _ us hl => match us, hl with | [_], _ => rfl
  have F1 := fun_mk (st := st_is_counted) l1 c1 k1
  have b1 := F1.binds (ps := ["thing"]) fun _ _ _ _ _ _ us hl => match us, hl with | [_], _ => rfl
  have F2 := fun_mk (st := st_need_counted) l2 c2 k2
  have b2 := F2.binds (ps := ["meeting"]) fun _ _ _ _ _ _ us hl => match us, hl with | [_], _ => rfl
  have F3 := fun_mk (st := st_groups_of) l3 c3 k3
  have b3 := F3.binds (ps := ["k", "counts"]) fun _ _ _ _ _ _ us hl => match us, hl with | [_, _], _ => rfl
  have F4 := fun_mk (st := st_behind_meeting) l4 c4 k4
  have b4 := F4.binds (ps := ["counts", "group"]) fun _ _ _ _ _ _ us hl => match us, hl with | [_, _], _ => rfl
  have F5 := fun_mk (st := st_are_ever) l5 c5 k5
  have b5 := F5.binds (ps := ["meeting", "stands"]) fun _ _ _ _ _ _ us hl => match us, hl with | [_, _], _ => rfl
  have F6 := fun_mk (st := st__law_e_mixed) l6 c6 k6
  have b6 := F6.binds (ps := ["cell", "place"]) fun _ _ _ _ _ _ us hl => match us, hl with | [_, _], _ => rfl
  have F7 := fun_mk (st := st__law_e_pick) l7 c7 k7
  have b7 := F7.binds (ps := ["deck", "many"]) fun _ _ _ _ _ _ us hl => match us, hl with | [_, _], _ => rfl
  have F8 := fun_mk (st := st__law_e_meeting) l8 c8 k8
  have b8 := F8.binds (ps := ["deck", "great"]) fun _ _ _ _ _ _ us hl => match us, hl with | [_, _], _ => rfl
  have F9 := fun_mk (st := st__law_e_groups) l9 c9 k9
  have b9 := F9.binds (ps := ["k", "counts"]) fun _ _ _ _ _ _ us hl => match us, hl with | [_, _], _ => rfl
  have F10 := fun_mk (st := st__law_e_met) l10 c10 k10
  have b10 := F10.binds (ps := ["counts", "group"]) fun _ _ _ _ _ _ us hl => match us, hl with | [_, _], _ => rfl
  have F11 := fun_mk (st := st__law_e_search) l11 c11 k11
  have b11 := F11.binds (ps := ["meeting"]) fun _ _ _ _ _ _ us hl => match us, hl with | [_], _ => rfl
  have F12 := fun_mk (st := st__law_e_due) l12 c12 k12
  have b12 := F12.binds (ps := ["meeting", "stands"]) fun _ _ _ _ _ _ us hl => match us, hl with | [_, _], _ => rfl
  have F13 := fun_mk (st := st__law_e_bent) l13 c13 k13
  have b13 := F13.binds (ps := ["deck", "meeting", "stands"]) fun _ _ _ _ _ _ us hl => match us, hl with | [_, _, _], _ => rfl
  have F14 := fun_mk (st := st_law) l14 c14 k14
  have y_isinstance := PySem.W.mg_none_of X G z_isinstance
  have y_int := PySem.W.mg_none_of X G z_int
  have y_bool := PySem.W.mg_none_of X G z_bool
  have y_tuple := PySem.W.mg_none_of X G z_tuple
  have y_len := PySem.W.mg_none_of X G z_len
  have y_all := PySem.W.mg_none_of X G z_all
  have y_enumerate := PySem.W.mg_none_of X G z_enumerate
  have y_sum := PySem.W.mg_none_of X G z_sum
  have y_range := PySem.W.mg_none_of X G z_range
  have y_sorted := PySem.W.mg_none_of X G z_sorted
  have y_list := PySem.W.mg_none_of X G z_list
  have y_min := PySem.W.mg_none_of X G z_min
  refine ⟨PySem.W.fnOf "law" "law" (defArgs st_law) (defBody st_law) (defScope st_law) .none kV14 dc14 pm14 an14 cd14 ct14, fun s v => .of_eq rfl, fun base _ _ => ?_⟩
  have C0 := ok_is_count (P := l.prog) (w := w) (base := base) (k := 0) F0 b0 (PySem.W.mg_of X G a0) y_isinstance y_int y_bool
  have C1 := ok_is_counted (P := l.prog) (w := w) (base := base) (k := 1) F1 b1 (PySem.W.mg_of X G a1) (C0.up (by decide)) y_isinstance y_tuple y_len y_all
  have C2 := ok_need_counted (P := l.prog) (w := w) (base := base) (k := 2) F2 b2 (PySem.W.mg_of X G a2) (C1.up (by decide))
  have C3 := ok_groups_of (P := l.prog) (w := w) (base := base) (k := 0) F3 b3 (PySem.W.mg_of X G a3) y_enumerate y_len
  have C4 := ok_behind_meeting (P := l.prog) (w := w) (base := base) (k := 0) F4 b4 (PySem.W.mg_of X G a4) y_tuple y_enumerate y_int
  have C5 := ok_are_ever (P := l.prog) (w := w) (base := base) (k := 3) F5 b5 (PySem.W.mg_of X G a5) (C2.up (by decide)) (C3.up (by decide)) (C4.up (by decide)) y_len y_all y_sum
  have C6 := ok__law_e_mixed (P := l.prog) (w := w) (base := base) (k := 0) F6 b6 (PySem.W.mg_of X G a6)
  have C7 := ok__law_e_pick (P := l.prog) (w := w) (base := base) (k := 1) F7 b7 (PySem.W.mg_of X G a7) (C6.up (by decide)) y_len
  have C8 := ok__law_e_meeting (P := l.prog) (w := w) (base := base) (k := 2) F8 b8 (PySem.W.mg_of X G a8) (C7.up (by decide)) y_range y_tuple
  have C9 := ok__law_e_groups (P := l.prog) (w := w) (base := base) (k := 0) F9 b9 (PySem.W.mg_of X G a9) y_range y_len y_sorted
  have C10 := ok__law_e_met (P := l.prog) (w := w) (base := base) (k := 0) F10 b10 (PySem.W.mg_of X G a10) y_list y_tuple
  have C11 := ok__law_e_search (P := l.prog) (w := w) (base := base) (k := 1) F11 b11 (PySem.W.mg_of X G a11) (C9.up (by decide)) (C10.up (by decide)) y_sum
  have C12 := ok__law_e_due (P := l.prog) (w := w) (base := base) (k := 1) F12 b12 (PySem.W.mg_of X G a12) (C9.up (by decide)) (C10.up (by decide)) y_len y_all y_sum
  have C13 := ok__law_e_bent (P := l.prog) (w := w) (base := base) (k := 2) F13 b13 (PySem.W.mg_of X G a13) (C7.up (by decide)) (C11.up (by decide)) y_len y_tuple y_min y_list
  exact law_ok (ok_law (P := l.prog) (w := w) (base := base) (k := 4) F14 (C8.up (by decide)) (C11.up (by decide)) (C13.up (by decide)) (C5.up (by decide)) (C12.up (by decide)) y_range y_len y_list y_isinstance y_bool) law_true
end G
end DL
end L2
open PySem PySem.W PyProof.Rows
set_option maxRecDepth 100000 in
set_option maxHeartbeats 0 in
theorem PySem.Challenge.cw_meetwall_k55_lists_of_counts_looked_at_holds : PySem.Challenge.rw_meetwall_k55_lists_of_counts_looked_at.Holds := by
  w_on; o_law; k_head; (case hw => w_witness2)
  k_fill
  refine L2.walk_of (l := PySem.Challenge.rw_meetwall_k55_lists_of_counts_looked_at) (n := 63) (k := 5) (x := "script") (CX := fun _ => L2.CX0) (sp := fun w => L2.DL.spLaw _) rfl (by decide) rfl ⟨rfl, by decide, by decide⟩ (fun w h Y => PySem.W.kIn_of Y) ?F (fun _ _ a ns hl hO hS => ⟨a, ns, rfl, L2.DL.only_fz hO hS, hl, fun _ => rfl⟩) (fun _ _ _ _ _ h => h)
  case F =>
    intro w mg fa h KX G hmg
    refine' L2.DL.G.all_mk KX G hmg ?a0 ?l0 ?c0 ?k0 ?a1 ?l1 ?c1 ?k1 ?a2 ?l2 ?c2 ?k2 ?a3 ?l3 ?c3 ?k3 ?a4 ?l4 ?c4 ?k4 ?a5 ?l5 ?c5 ?k5 ?a6 ?l6 ?c6 ?k6 ?a7 ?l7 ?c7 ?k7 ?a8 ?l8 ?c8 ?k8 ?a9 ?l9 ?c9 ?k9 ?a10 ?l10 ?c10 ?k10 ?a11 ?l11 ?c11 ?k11 ?a12 ?l12 ?c12 ?k12 ?a13 ?l13 ?c13 ?k13 ?a14 ?l14 ?c14 ?k14 ?z_isinstance ?z_int ?z_bool ?z_tuple ?z_len ?z_all ?z_enumerate ?z_sum ?z_range ?z_sorted ?z_list ?z_min
    (case a0 => k_is); (case l0 => k_is); (case c0 => k_is); (case k0 => k_is); (case a1 => k_is); (case l1 => k_is); (case c1 => k_is); (case k1 => k_is); (case a2 => k_is); (case l2 => k_is); (case c2 => k_is); (case k2 => k_is); (case a3 => k_is); (case l3 => k_is); (case c3 => k_is); (case k3 => k_is); (case a4 => k_is); (case l4 => k_is); (case c4 => k_is); (case k4 => k_is); (case a5 => k_is); (case l5 => k_is); (case c5 => k_is); (case k5 => k_is); (case a6 => k_is); (case l6 => k_is); (case c6 => k_is); (case k6 => k_is); (case a7 => k_is); (case l7 => k_is); (case c7 => k_is); (case k7 => k_is); (case a8 => k_is); (case l8 => k_is); (case c8 => k_is); (case k8 => k_is); (case a9 => k_is); (case l9 => k_is); (case c9 => k_is); (case k9 => k_is); (case a10 => k_is); (case l10 => k_is); (case c10 => k_is); (case k10 => k_is); (case a11 => k_is); (case l11 => k_is); (case c11 => k_is); (case k11 => k_is); (case a12 => k_is); (case l12 => k_is); (case c12 => k_is); (case k12 => k_is); (case a13 => k_is); (case l13 => k_is); (case c13 => k_is); (case k13 => k_is); (case a14 => k_is); (case l14 => k_is); (case c14 => k_is); (case k14 => k_is); (case z_isinstance => k_is); (case z_int => k_is); (case z_bool => k_is); (case z_tuple => k_is); (case z_len => k_is); (case z_all => k_is); (case z_enumerate => k_is); (case z_sum => k_is); (case z_range => k_is); (case z_sorted => k_is); (case z_list => k_is); (case z_min => k_is)

