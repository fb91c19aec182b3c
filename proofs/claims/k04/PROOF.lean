import PyProof.Rows.All
import Wide.All
import OpenK.AllK
import Wide.FinOn
import HandS.ForExc
import HandS.Comp
import HandS.Style
import HandS.IsInst
import HandS.Wide
import HandS.TupAny
import HandS.TupMul
import HandS.EndBits
import HandS.Dict
import HandS.Deep
import HandS.Iter
import KE.KTupSum
import KE.GoesMore
import HandS.Text
import HandS.List
import HandS.Conv
import HandS.SortInts
import HandS.TupSets
import OpenK.KWalk
import HandS.TupLen
import HandS.WordsDict
import KE.KDictDisplayH
import HandS.Exc
import HandS.ExcOwn
import HandS.ExcIs
import HandS.DictComp
import HandS.More
import KE.KEqDict
import PyProof.DictFindH
import PyProof.DictMoreH
import KE.KDictWalk
import KE.KDictCopyH
import PySem.Challenge.RW_meetwall_k04_no_houses
set_option Elab.async false
set_option linter.all false
set_option maxRecDepth 100000
/-! The data layer: what a def computes, as a plain function over trees and a store of mutable cells. -/
namespace L2
namespace DL
open PySem PySem.Spec PyProof.Rows

/-- a value as a tree: tuples and lists that are never changed any more by their items, lists known to stay (fz), mutable things by their place in the store -/
inductive D where
  | non | bl (b : Bool) | int (i : Int) | str (x : Str) | tup (ds : List D) | lst (ds : List D) | fz (ds : List D) | ref (n : Nat) | ty (n : String)
/-- a mutable thing -/
inductive Cell where
  | lst (ds : List D) | dK (kvs : List (Key × D)) | dT (kvs : List (List Key × D)) | ins (c : Str) (fs : List (Str × D)) | exc (c : Str) | fK (kvs : List (Key × D)) | fT (kvs : List (List Key × D))
abbrev Sto := List Cell
abbrev Ev := List (Option D)
/-- what a piece of code comes to -/
inductive Out (A : Type) where
  | ok (a : A) (S : Sto) | exc (c : Str) (S : Sto) | bad
def Out.bind {A B : Type} (m : Out A) (k : A → Sto → Out B) : Out B := match m with
  | .ok a S => k a S
  | .exc c S => .exc c S
  | .bad => .bad
theorem Out.bind_ok {A B : Type} (a : A) (S : Sto) (k : A → Sto → Out B) : (Out.ok a S).bind k = k a S := rfl
theorem Out.bind_exc {A B : Type} (c : Str) (S : Sto) (k : A → Sto → Out B) : (Out.exc c S).bind k = Out.exc c S := rfl
theorem Out.bind_bad {A B : Type} (k : A → Sto → Out B) : (Out.bad : Out A).bind k = Out.bad := rfl
def lift {A : Type} (o : Option A) (S : Sto) : Out A := match o with
  | some a => .ok a S
  | none => .bad

/-! ### how a value of the machine is a tree -/
/-- a list of the written part -/
def KL (K : PySem.W.Frag) (a : Addr) (xs : List V) : Prop := ∃ (o : Obj) (its : Array Value) (n : Nat), K.lookup a = some o ∧ o.cls = .type "list" ∧ o.dict = none ∧ o.data = .seq its n ∧ its.size ≤ sizeLine ∧ Vals xs its.toList
/-- a list that nobody changes -/
def FzL (K : PySem.W.Frag) (H : Hp) (a : Addr) (xs : List V) : Prop := (∃ o, H a = some (.frz o (.lst xs))) ∨ KL K a xs
theorem FzL.sq {K : PySem.W.Frag} {H : Hp} {a : Addr} {xs : List V} (h : FzL K H a xs) : SqL K H a xs := h.elim (fun ⟨o, z⟩ => .inl (.inr ⟨o, z⟩)) .inr
mutual
inductive Den (K : PySem.W.Frag) (H : Hp) (r t : List Addr) : V → D → Prop
  | non : Den K H r t .non .non
  | bl (b : Bool) : Den K H r t (.bl b) (.bl b)
  | int (i : Int) : Den K H r t (.int i) (.int i)
  | str (x : Str) : Den K H r t (.str x) (.str x)
  | tup {a : Addr} {xs : List V} {ds : List D} (h : H a = some (.tup xs)) (z : DenL K H r t xs ds) : Den K H r t (.ref a) (.tup ds)
  | lst {a : Addr} {xs : List V} {ds : List D} (h : H a = some (.lst xs)) (n : a ∉ r) (m : a ∉ t) (z : DenL K H r t xs ds) : Den K H r t (.ref a) (.lst ds)
  | fz {a : Addr} {xs : List V} {ds : List D} (h : FzL K H a xs) (z : DenL K H r t xs ds) : Den K H r t (.ref a) (.fz ds)
  | ref {a : Addr} {n : Nat} (h : r[n]? = some a) : Den K H r t (.ref a) (.ref n)
  | ty (n : String) : Den K H r t (.ty n) (.ty n)
inductive DenL (K : PySem.W.Frag) (H : Hp) (r t : List Addr) : List V → List D → Prop
  | nil : DenL K H r t [] []
  | cons {v : V} {vs : List V} {d : D} {ds : List D} : Den K H r t v d → DenL K H r t vs ds → DenL K H r t (v :: vs) (d :: ds)
end
/-- pairs of a key and a value -/
def DenP (K : PySem.W.Frag) (H : Hp) (r t : List Addr) {k : Type} (xs : List (k × V)) (ds : List (k × D)) : Prop := xs.map (·.1) = ds.map (·.1) ∧ DenL K H r t (xs.map (·.2)) (ds.map (·.2))

/-- the heap grows: new cells behind the old ones, what is no cell stays -/
structure Ext (r : List Addr) (H : Hp) (r' : List Addr) (H' : Hp) : Prop where
  pre : ∃ nw, r' = r ++ nw ∧ ∀ p ∈ nw, H p = none
  keep : ∀ b o, H b = some o → b ∉ r → H' b = some o
  tups : ∀ b xs, H b = some (.tup xs) → H' b = some (.tup xs)
  frzs : ∀ b o u, H b = some (.frz o u) → H' b = some (.frz o u)
  owns : ∀ b x, H b = some (.own x) → H' b = some (.own x)
  there : ∀ b, H b ≠ none → H' b ≠ none
section
variable {K : PySem.W.Frag} {H H1 H2 : Hp} {r r1 r2 t : List Addr}
theorem Ext.refl (r : List Addr) (H : Hp) : Ext r H r H := ⟨⟨[], by simp⟩, fun _ _ h _ => h, fun _ _ h => h, fun _ _ _ h => h, fun _ _ h => h, fun _ h => h⟩
theorem Ext.notin (a : Ext r H r1 H1) {b : Addr} (h : H b ≠ none) (hb : b ∉ r) : b ∉ r1 := fun hm => by
  obtain ⟨n1, e1, f1⟩ := a.pre
  rw [e1] at hm
  rcases List.mem_append.mp hm with z | z
  · exact hb z
  · exact h (f1 b z)
theorem Ext.trans (a : Ext r H r1 H1) (b : Ext r1 H1 r2 H2) : Ext r H r2 H2 := by
  obtain ⟨n1, e1, f1⟩ := a.pre
  obtain ⟨n2, e2, f2⟩ := b.pre
  refine ⟨⟨n1 ++ n2, by rw [e2, e1, List.append_assoc], fun p hp => ?_⟩, fun c o h hc => b.keep c o (a.keep c o h hc) (a.notin (by rw [h]; exact fun z => nomatch z) hc), fun c xs h => b.tups c xs (a.tups c xs h), fun c o u h => b.frzs c o u (a.frzs c o u h), fun c o h => b.owns c o (a.owns c o h), fun c h => b.there c (a.there c h)⟩
  rcases List.mem_append.mp hp with z | z
  · exact f1 p z
  · have q := f2 p z
    cases e : H p with
    | none => rfl
    | some o => exact absurd q (a.there p (by rw [e]; exact fun z => nomatch z))
theorem Ext.get (a : Ext r H r1 H1) {n : Nat} {b : Addr} (h : r[n]? = some b) : r1[n]? = some b := by
  obtain ⟨n1, e1, _⟩ := a.pre
  rw [e1, List.getElem?_append_left (List.getElem?_eq_some_iff.mp h).1]
  exact h
theorem Ext.sqT (a : Ext r H r1 H1) {b : Addr} {xs : List V} (h : SqT K H b xs) : SqT K H1 b xs := by
  rcases h with (h | ⟨o, h⟩) | h
  · exact .inl (.inl (a.tups _ _ h))
  · exact .inl (.inr ⟨o, a.frzs _ _ _ h⟩)
  · exact .inr h
mutual
theorem Den.ext (a : Ext r H r1 H1) : ∀ (d : D) (v : V), Den K H r t v d → Den K H1 r1 t v d
  | .non, _, h => by cases h; exact .non
  | .bl b, _, h => by cases h; exact .bl b
  | .int i, _, h => by cases h; exact .int i
  | .str x, _, h => by cases h; exact .str x
  | .ty n, _, h => by cases h; exact .ty n
  | .tup ds, _, h => by
    cases h with
    | tup h z => exact .tup (a.tups _ _ h) (DenL.ext a ds _ z)
  | .lst ds, _, h => by
    cases h with
    | lst h n m z => exact .lst (a.keep _ _ h n) (a.notin (by rw [h]; exact fun z => nomatch z) n) m (DenL.ext a ds _ z)
  | .fz ds, _, h => by
    cases h with
    | fz h z => exact .fz (h.imp (fun ⟨o, q⟩ => ⟨o, a.frzs _ _ _ q⟩) id) (DenL.ext a ds _ z)
  | .ref n, _, h => by
    cases h with
    | ref h => exact .ref (a.get h)
theorem DenL.ext (a : Ext r H r1 H1) : ∀ (ds : List D) (vs : List V), DenL K H r t vs ds → DenL K H1 r1 t vs ds
  | [], _, h => by cases h; exact .nil
  | d :: ds, _, h => by
    cases h with
    | cons h1 h2 => exact .cons (Den.ext a d _ h1) (DenL.ext a ds _ h2)
end
theorem DenP.ext (a : Ext r H r1 H1) {k : Type} {xs : List (k × V)} {ds : List (k × D)} (h : DenP K H r t xs ds) : DenP K H1 r1 t xs ds := ⟨h.1, DenL.ext a _ _ h.2⟩
theorem DenL.length : ∀ {vs : List V} {ds : List D}, DenL K H r t vs ds → vs.length = ds.length
  | _, _, .nil => rfl
  | _, _, .cons _ h => by rw [List.length_cons, List.length_cons, DenL.length h]
theorem DenL.get : ∀ {vs : List V} {ds : List D} {i : Nat} {d : D}, DenL K H r t vs ds → ds[i]? = some d → ∃ v, vs[i]? = some v ∧ Den K H r t v d
  | _, _, _, _, .nil, e => by simp at e
  | _, _, 0, _, .cons h _, e => by
    have e' := Option.some.inj e
    subst e'
    exact ⟨_, rfl, h⟩
  | _, _, i + 1, _, .cons _ h, e => DenL.get (i := i) h e
theorem DenL.getV : ∀ {vs : List V} {ds : List D} {i : Nat} {v : V}, DenL K H r t vs ds → vs[i]? = some v → ∃ d, ds[i]? = some d ∧ Den K H r t v d
  | _, _, _, _, .nil, e => by simp at e
  | _, _, 0, _, .cons h _, e => by
    have e' := Option.some.inj e
    subst e'
    exact ⟨_, rfl, h⟩
  | _, _, i + 1, _, .cons _ h, e => DenL.getV (i := i) h e
theorem DenL.append : ∀ {vs ws : List V} {ds es : List D}, DenL K H r t vs ds → DenL K H r t ws es → DenL K H r t (vs ++ ws) (ds ++ es)
  | _, _, _, _, .nil, h => h
  | _, _, _, _, .cons a b, h => .cons a (DenL.append b h)
theorem DenL.take : ∀ {vs : List V} {ds : List D} (n : Nat), DenL K H r t vs ds → DenL K H r t (vs.take n) (ds.take n)
  | _, _, 0, _ => .nil
  | _, _, _ + 1, .nil => .nil
  | _, _, n + 1, .cons a b => .cons a (DenL.take n b)
theorem DenL.drop : ∀ {vs : List V} {ds : List D} (n : Nat), DenL K H r t vs ds → DenL K H r t (vs.drop n) (ds.drop n)
  | _, _, 0, h => h
  | _, _, _ + 1, .nil => .nil
  | _, _, n + 1, .cons _ b => DenL.drop n b
theorem DenL.set : ∀ {vs : List V} {ds : List D} (n : Nat) {v : V} {d : D}, DenL K H r t vs ds → Den K H r t v d → DenL K H r t (vs.set n v) (ds.set n d)
  | _, _, _, _, _, .nil, _ => .nil
  | _, _, 0, _, _, .cons _ b, h => .cons h b
  | _, _, n + 1, _, _, .cons a b, h => .cons a (DenL.set n b h)
theorem DenL.reverse : ∀ {vs : List V} {ds : List D}, DenL K H r t vs ds → DenL K H r t vs.reverse ds.reverse
  | _, _, .nil => .nil
  | _, _, .cons a b => by
    rw [List.reverse_cons, List.reverse_cons]
    exact (DenL.reverse b).append (.cons a .nil)
theorem DenL.rep {vs : List V} {ds : List D} (h : DenL K H r t vs ds) : ∀ k : Nat, DenL K H r t (List.replicate k vs).flatten (List.replicate k ds).flatten
  | 0 => .nil
  | k + 1 => by
    rw [List.replicate_succ, List.replicate_succ, List.flatten_cons, List.flatten_cons]
    exact h.append (DenL.rep h k)
/-- ints, bools read off -/
theorem DenL.ints : ∀ {vs : List V} {ns : List Int}, DenL K H r t vs (ns.map D.int) → vs = ns.map V.int
  | _, [], h => by cases h; rfl
  | _, n :: ns, h => by
    cases h with
    | cons a b => cases a; rw [List.map_cons, DenL.ints b]
theorem DenL.bls : ∀ {vs : List V} {ns : List Bool}, DenL K H r t vs (ns.map D.bl) → vs = ns.map V.bl
  | _, [], h => by cases h; rfl
  | _, n :: ns, h => by
    cases h with
    | cons a b => cases a; rw [List.map_cons, DenL.bls b]
/- fewer hidden addresses ask less -/
mutual
theorem Den.less {u : List Addr} (hs : ∀ a ∈ u, a ∈ t) : ∀ (d : D) (v : V), Den K H r t v d → Den K H r u v d
  | .non, _, h => by cases h; exact .non
  | .bl b, _, h => by cases h; exact .bl b
  | .int i, _, h => by cases h; exact .int i
  | .str x, _, h => by cases h; exact .str x
  | .ty n, _, h => by cases h; exact .ty n
  | .tup ds, _, h => by
    cases h with
    | tup h z => exact .tup h (DenL.less hs ds _ z)
  | .lst ds, _, h => by
    cases h with
    | lst h n m z => exact .lst h n (fun q => m (hs _ q)) (DenL.less hs ds _ z)
  | .fz ds, _, h => by
    cases h with
    | fz h z => exact .fz h (DenL.less hs ds _ z)
  | .ref n, _, h => by
    cases h with
    | ref h => exact .ref h
theorem DenL.less {u : List Addr} (hs : ∀ a ∈ u, a ∈ t) : ∀ (ds : List D) (vs : List V), DenL K H r t vs ds → DenL K H r u vs ds
  | [], _, h => by cases h; exact .nil
  | d :: ds, _, h => by
    cases h with
    | cons h1 h2 => exact .cons (Den.less hs d _ h1) (DenL.less hs ds _ h2)
end
/- one more hidden address, new: what was said stands -/
mutual
theorem Den.hide {p : Addr} {o : HO} (hp : H p = none) : ∀ (d : D) (v : V), Den K H r t v d → Den K (upd H p o) r (p :: t) v d
  | .non, _, h => by cases h; exact .non
  | .bl b, _, h => by cases h; exact .bl b
  | .int i, _, h => by cases h; exact .int i
  | .str x, _, h => by cases h; exact .str x
  | .ty n, _, h => by cases h; exact .ty n
  | .tup ds, _, h => by
    cases h with
    | tup h z => exact .tup (by rw [upd_ne (ne_of_none h hp)]; exact h) (DenL.hide hp ds _ z)
  | .lst ds, _, h => by
    cases h with
    | lst h n m z => exact .lst (by rw [upd_ne (ne_of_none h hp)]; exact h) n (fun q => (List.mem_cons.mp q).elim (ne_of_none h hp) m) (DenL.hide hp ds _ z)
  | .fz ds, _, h => by
    cases h with
    | fz h z => exact .fz (h.imp (fun ⟨o, q⟩ => ⟨o, by rw [upd_ne (ne_of_none q hp)]; exact q⟩) id) (DenL.hide hp ds _ z)
  | .ref n, _, h => by
    cases h with
    | ref h => exact .ref h
theorem DenL.hide {p : Addr} {o : HO} (hp : H p = none) : ∀ (ds : List D) (vs : List V), DenL K H r t vs ds → DenL K (upd H p o) r (p :: t) vs ds
  | [], _, h => by cases h; exact .nil
  | d :: ds, _, h => by
    cases h with
    | cons h1 h2 => exact .cons (Den.hide hp d _ h1) (DenL.hide hp ds _ h2)
end
/- a hidden address is written: what was said stands -/
mutual
theorem Den.over {p : Addr} {o : HO} (hp : p ∈ t) (hT : ∀ xs, H p ≠ some (.tup xs)) (hF : ∀ ob u, H p ≠ some (.frz ob u)) : ∀ (d : D) (v : V), Den K H r t v d → Den K (upd H p o) r t v d
  | .non, _, h => by cases h; exact .non
  | .bl b, _, h => by cases h; exact .bl b
  | .int i, _, h => by cases h; exact .int i
  | .str x, _, h => by cases h; exact .str x
  | .ty n, _, h => by cases h; exact .ty n
  | .tup ds, _, h => by
    cases h with
    | tup h z => exact .tup (by rw [upd_ne (fun e => by subst e; exact hT _ h)]; exact h) (DenL.over hp hT hF ds _ z)
  | .lst ds, _, h => by
    cases h with
    | lst h n m z => exact .lst (by rw [upd_ne (fun e => by subst e; exact m hp)]; exact h) n m (DenL.over hp hT hF ds _ z)
  | .fz ds, _, h => by
    cases h with
    | fz h z => exact .fz (h.imp (fun ⟨o, q⟩ => ⟨o, by rw [upd_ne (fun e => by subst e; exact hF _ _ q)]; exact q⟩) id) (DenL.over hp hT hF ds _ z)
  | .ref n, _, h => by
    cases h with
    | ref h => exact .ref h
theorem DenL.over {p : Addr} {o : HO} (hp : p ∈ t) (hT : ∀ xs, H p ≠ some (.tup xs)) (hF : ∀ ob u, H p ≠ some (.frz ob u)) : ∀ (ds : List D) (vs : List V), DenL K H r t vs ds → DenL K (upd H p o) r t vs ds
  | [], _, h => by cases h; exact .nil
  | d :: ds, _, h => by
    cases h with
    | cons h1 h2 => exact .cons (Den.over hp hT hF d _ h1) (DenL.over hp hT hF ds _ h2)
end
end

/-! ### the store -/
/-- an exception of a class, behind its catch -/
def ExcO (a : Addr) (cls : Value) : HO := .ext fun h => ∃ (oe : Obj) (vs : Array Value), h.get? a = some oe ∧ Zc cls none oe ∧ oe.data = .fields vs
section
variable (K : PySem.W.Frag) (mg : Str → Option Value) (H : Hp) (r t : List Addr)
def CellOk (a : Addr) : Cell → Prop
  | .lst ds => ∃ xs, H a = some (.lst xs) ∧ DenL K H r t xs ds
  | .dK kvs => ∃ ps, H a = some (.dK ps) ∧ DenP K H r t ps kvs
  | .dT kvs => ∃ ps, H a = some (.dT ps) ∧ DenP K H r t ps kvs
  | .ins c fs => ∃ C dx ps, H a = some (.ins C dx ps) ∧ H dx = some (.own a) ∧ mg c = some (.ref C) ∧ DenP K H r t ps fs
  | .exc c => ∃ C, mg c = some (.ref C) ∧ H a = some (ExcO a (.ref C))
  | .fK kvs => ∃ o ps, H a = some (.frz o (.dK ps)) ∧ DenP K H r t ps kvs
  | .fT kvs => ∃ o ps, H a = some (.frz o (.dT ps)) ∧ DenP K H r t ps kvs
structure SOk (S : Sto) : Prop where
  len : r.length = S.length
  nd : r.Nodup
  ok : ∀ (n : Nat) (a : Addr) (c : Cell), r[n]? = some a → S[n]? = some c → CellOk K mg H r t a c
  hid : ∀ a ∈ t, H a ≠ none ∧ a ∉ r
structure Rel (S : Sto) (env : Ev) (σ : St) : Prop where
  so : SOk K mg H r t S
  len : env.length = σ.length
  en : ∀ (i : Nat) (d : D), env[i]? = some (some d) → ∃ v, σ[i]? = some (some v) ∧ Den K H r t v d
end
section
variable {K : PySem.W.Frag} {mg : Str → Option Value} {H H1 : Hp} {r r1 t : List Addr} {S S1 : Sto} {env : Ev} {σ : St}
theorem Rel.ext (R : Rel K mg H r t S env σ) (e : Ext r H r1 H1) (so : SOk K mg H1 r1 t S1) : Rel K mg H1 r1 t S1 env σ :=
  ⟨so, R.len, fun i d h => let ⟨v, h1, h2⟩ := R.en i d h; ⟨v, h1, Den.ext e d v h2⟩⟩
theorem Rel.set (R : Rel K mg H r t S env σ) (i : Nat) {v : V} {d : D} (h : Den K H r t v d) : Rel K mg H r t S (env.set i (some d)) (σ.set i (some v)) := by
  refine ⟨R.so, by rw [List.length_set, List.length_set, R.len], fun j e q => ?_⟩
  by_cases hj : i = j
  · subst hj
    by_cases hl : i < env.length
    · rw [List.getElem?_set_self hl] at q
      have q' := Option.some.inj (Option.some.inj q)
      subst q'
      exact ⟨v, by rw [List.getElem?_set_self (by rw [← R.len]; exact hl)], h⟩
    · rw [List.getElem?_eq_none (by rw [List.length_set]; omega)] at q
      cases q
  · rw [List.getElem?_set_ne hj] at q
    obtain ⟨w, h1, h2⟩ := R.en j e q
    exact ⟨w, by rw [List.getElem?_set_ne hj]; exact h1, h2⟩
theorem Rel.wipe (R : Rel K mg H r t S env σ) (i : Nat) : Rel K mg H r t S (env.set i none) (σ.set i none) := by
  refine ⟨R.so, by rw [List.length_set, List.length_set, R.len], fun j e q => ?_⟩
  by_cases hj : i = j
  · subst hj
    by_cases hl : i < env.length
    · rw [List.getElem?_set_self hl] at q
      cases q
    · rw [List.getElem?_eq_none (by rw [List.length_set]; omega)] at q
      cases q
  · rw [List.getElem?_set_ne hj] at q
    obtain ⟨w, h1, h2⟩ := R.en j e q
    exact ⟨w, by rw [List.getElem?_set_ne hj]; exact h1, h2⟩
/-- a new object that is no cell -/
theorem Ext.new {p : Addr} {o : HO} (hp : H p = none) : Ext r H r (upd H p o) := by
  have ne : ∀ b u, H b = some u → b ≠ p := fun b u h => ne_of_none h hp
  refine ⟨⟨[], by simp⟩, fun b u h _ => ?_, fun b u h => ?_, fun b u w h => ?_, fun b u h => ?_, fun b h => ?_⟩
  · rw [upd_ne (ne b _ h)]; exact h
  · rw [upd_ne (ne b _ h)]; exact h
  · rw [upd_ne (ne b _ h)]; exact h
  · rw [upd_ne (ne b _ h)]; exact h
  · by_cases e : b = p
    · subst e; rw [upd_same]; exact fun z => nomatch z
    · rw [upd_ne e]; exact h
theorem CellOk.at (so : SOk K mg H r t S) (e : Ext r H r1 H1) {a : Addr} {c : Cell} (h : CellOk K mg H r t a c) (k : H1 a = H a) : CellOk K mg H1 r1 t a c := by
  cases c with
  | lst ds => obtain ⟨xs, h1, h2⟩ := h; exact ⟨xs, k.trans h1, DenL.ext e _ _ h2⟩
  | dK ds => obtain ⟨xs, h1, h2⟩ := h; exact ⟨xs, k.trans h1, DenP.ext e h2⟩
  | dT ds => obtain ⟨xs, h1, h2⟩ := h; exact ⟨xs, k.trans h1, DenP.ext e h2⟩
  | ins c fs => obtain ⟨C, dx, ps, h1, h2, h3, h4⟩ := h; exact ⟨C, dx, ps, k.trans h1, e.owns _ _ h2, h3, DenP.ext e h4⟩
  | exc c => obtain ⟨C, h1, h2⟩ := h; exact ⟨C, h1, k.trans h2⟩
  | fK ds => obtain ⟨o, xs, h1, h2⟩ := h; exact ⟨o, xs, k.trans h1, DenP.ext e h2⟩
  | fT ds => obtain ⟨o, xs, h1, h2⟩ := h; exact ⟨o, xs, k.trans h1, DenP.ext e h2⟩
theorem CellOk.there {a : Addr} {c : Cell} (h : CellOk K mg H r t a c) : ∃ o, H a = some o ∧ True := by
  cases c with
  | lst ds => obtain ⟨xs, h1, h2⟩ := h; exact ⟨_, h1, trivial⟩
  | dK ds => obtain ⟨xs, h1, h2⟩ := h; exact ⟨_, h1, trivial⟩
  | dT ds => obtain ⟨xs, h1, h2⟩ := h; exact ⟨_, h1, trivial⟩
  | ins c fs => obtain ⟨C, dx, ps, h1, h2, h3, h4⟩ := h; exact ⟨_, h1, trivial⟩
  | exc c => obtain ⟨C, h1, h2⟩ := h; exact ⟨_, h2, trivial⟩
  | fK ds => obtain ⟨o, xs, h1, h2⟩ := h; exact ⟨_, h1, trivial⟩
  | fT ds => obtain ⟨o, xs, h1, h2⟩ := h; exact ⟨_, h1, trivial⟩
theorem SOk.cell (so : SOk K mg H r t S) {n : Nat} {a : Addr} (h : r[n]? = some a) : ∃ c, S[n]? = some c ∧ CellOk K mg H r t a c := by
  have hn : n < S.length := by rw [← so.len]; exact (List.getElem?_eq_some_iff.mp h).1
  exact ⟨S[n], List.getElem?_eq_getElem hn, so.ok n a _ h (List.getElem?_eq_getElem hn)⟩
theorem SOk.addr (so : SOk K mg H r t S) {n : Nat} {c : Cell} (h : S[n]? = some c) : ∃ a, r[n]? = some a ∧ CellOk K mg H r t a c := by
  have hn : n < r.length := by rw [so.len]; exact (List.getElem?_eq_some_iff.mp h).1
  exact ⟨r[n], List.getElem?_eq_getElem hn, so.ok n _ _ (List.getElem?_eq_getElem hn) h⟩
theorem SOk.memThere (so : SOk K mg H r t S) {a : Addr} (h : a ∈ r) : ∃ o, H a = some o ∧ True := by
  obtain ⟨n, hn, e⟩ := List.getElem_of_mem h
  obtain ⟨c, _, ok⟩ := so.cell (n := n) (a := a) (by rw [List.getElem?_eq_getElem hn, e])
  exact ok.there
/-- .. the store stands -/
theorem SOk.new {p : Addr} {o : HO} (so : SOk K mg H r t S) (hp : H p = none) : SOk K mg (upd H p o) r t S := by
  refine ⟨so.len, so.nd, fun n a c h1 h2 => ?_, fun a ha => ⟨(Ext.new (r := r) hp).there a (so.hid a ha).1, (so.hid a ha).2⟩⟩
  have ok := so.ok n a c h1 h2
  obtain ⟨u, e, _⟩ := ok.there
  exact ok.at so (Ext.new hp) (upd_ne (ne_of_none e hp))
/-- a new cell -/
theorem Ext.grow {p : Addr} {o : HO} (hp : H p = none) : Ext r H (r ++ [p]) (upd H p o) := by
  have e := Ext.new (r := r) (o := o) hp
  exact ⟨⟨[p], rfl, fun q hq => by have z : q = p := by simpa using hq
                                   subst z; exact hp⟩, e.keep, e.tups, e.frzs, e.owns, e.there⟩
theorem SOk.grow {p : Addr} {o : HO} {c : Cell} (so : SOk K mg H r t S) (hp : H p = none) (hc : CellOk K mg (upd H p o) (r ++ [p]) t p c) : SOk K mg (upd H p o) (r ++ [p]) t (S ++ [c]) := by
  refine ⟨by rw [List.length_append, List.length_append, so.len]; rfl, ?_, fun n a d h1 h2 => ?_, fun a ha => ⟨(Ext.new (r := r) hp).there a (so.hid a ha).1, fun q => ?_⟩⟩
  · rw [List.nodup_append]
    refine ⟨so.nd, by simp, fun a ha b hb => ?_⟩
    have z : b = p := by simpa using hb
    obtain ⟨u, e, _⟩ := so.memThere ha
    rw [z]
    exact ne_of_none e hp
  · by_cases hn : n < r.length
    · rw [List.getElem?_append_left hn] at h1
      rw [List.getElem?_append_left (by rw [← so.len]; exact hn)] at h2
      have ok := so.ok n a d h1 h2
      obtain ⟨u, e, _⟩ := ok.there
      exact ok.at so (Ext.grow hp) (upd_ne (ne_of_none e hp))
    · have e1 := (List.getElem?_eq_some_iff.mp h1).1
      rw [List.length_append] at e1
      have e2 : n = r.length := by
        have : ([p] : List Addr).length = 1 := rfl
        omega
      subst e2
      rw [List.getElem?_append_right (Nat.le_refl _), Nat.sub_self] at h1
      rw [so.len, List.getElem?_append_right (Nat.le_refl _), Nat.sub_self] at h2
      have z1 : p = a := Option.some.inj h1
      have z2 : c = d := Option.some.inj h2
      subst z1 z2
      exact hc
  · rcases List.mem_append.mp q with z | z
    · exact (so.hid a ha).2 z
    · have y : a = p := by simpa using z
      subst y
      exact (so.hid a ha).1 hp
/-- a cell is written -/
theorem Ext.write {p : Addr} {o u : HO} (hu : H p = some u) (mu : Mut (some u)) (hm : p ∈ r) : Ext r H r (upd H p o) := by
  refine ⟨⟨[], by simp⟩, fun b w h hb => ?_, fun b w h => ?_, fun b w w2 h => ?_, fun b w h => ?_, fun b h => ?_⟩
  · rw [upd_ne (fun e => by subst e; exact hb hm)]; exact h
  · rw [upd_ne (fun e => by subst e; rw [hu] at h; cases h; exact mu)]; exact h
  · rw [upd_ne (fun e => by subst e; rw [hu] at h; cases h; exact mu)]; exact h
  · rw [upd_ne (fun e => by subst e; rw [hu] at h; cases h; exact mu)]; exact h
  · by_cases e : b = p
    · subst e; rw [upd_same]; exact fun z => nomatch z
    · rw [upd_ne e]; exact h
theorem nodup_get {l : List Addr} (h : l.Nodup) {i j : Nat} {a : Addr} (h1 : l[i]? = some a) (h2 : l[j]? = some a) : i = j := by
  obtain ⟨b1, e1⟩ := List.getElem?_eq_some_iff.mp h1
  obtain ⟨b2, e2⟩ := List.getElem?_eq_some_iff.mp h2
  exact (List.getElem_inj h).mp (e1.trans e2.symm)
theorem SOk.write {n : Nat} {p : Addr} {o : HO} {c : Cell} (so : SOk K mg H r t S) {u : HO} (hn : r[n]? = some p) (hu : H p = some u) (mu : Mut (some u)) (hc : CellOk K mg (upd H p o) r t p c) : SOk K mg (upd H p o) r t (S.set n c) := by
  have hm : p ∈ r := List.mem_of_getElem? hn
  refine ⟨by rw [List.length_set]; exact so.len, so.nd, fun j a d h1 h2 => ?_, fun a ha => ⟨(Ext.write (o := o) hu mu hm).there a (so.hid a ha).1, (so.hid a ha).2⟩⟩
  by_cases hj : n = j
  · subst hj
    rw [hn] at h1
    have z1 : p = a := Option.some.inj h1
    subst z1
    rw [List.getElem?_set_self (by rw [← so.len]; exact (List.getElem?_eq_some_iff.mp hn).1)] at h2
    have z2 : c = d := Option.some.inj h2
    subst z2
    exact hc
  · rw [List.getElem?_set_ne hj] at h2
    exact (so.ok j a d h1 h2).at so (Ext.write hu mu hm) (upd_ne fun e => hj (by subst e; exact nodup_get so.nd hn h1))
end
end DL
end L2

set_option Elab.async false
set_option linter.all false
set_option maxRecDepth 100000
namespace L2
namespace DL
open PySem PySem.Spec PyProof.Rows

abbrev DE := Ev → Sto → Out D
abbrev DB := Ev → Sto → Out Bool
abbrev DA := Ev → Sto → Out (List D)
abbrev Fn := List D → Sto → Out D

/-! ### what is wanted of an outcome -/
section
variable (K : PySem.W.Frag) (mg : Str → Option Value) (t : List Addr) (E : Addr → Hp → Prop)
def Good {A : Type} (r : List Addr) (H : Hp) (m : Out A) (R : A → Sto → List Addr → Hp → Prop) : Prop := match m with
  | .ok a S => ∀ H' r', Ext r H r' H' → SOk K mg H' r' t S → R a S r' H'
  | .exc c S => ∀ C H' r', mg c = some (.ref C) → Ext r H r' H' → SOk K mg H' r' t S → E C H'
  | .bad => False
end
section
variable {K : PySem.W.Frag} {mg : Str → Option Value} {t : List Addr} {E : Addr → Hp → Prop} {r r1 : List Addr} {H H1 : Hp} {A B : Type} {S : Sto}
theorem Good.ext {m : Out A} {R : A → Sto → List Addr → Hp → Prop} (g : Good K mg t E r H m R) (e : Ext r H r1 H1) : Good K mg t E r1 H1 m R := by
  cases m with
  | ok a S => exact fun H' r' e' so => g H' r' (e.trans e') so
  | exc c S => exact fun C H' r' h e' so => g C H' r' h (e.trans e') so
  | bad => exact g
theorem Good.bind {m : Out A} {k : A → Sto → Out B} {R : B → Sto → List Addr → Hp → Prop} (g : Good K mg t E r H (m.bind k) R) : Good K mg t E r H m fun a S r' H' => Good K mg t E r' H' (k a S) R := by
  cases m with
  | ok a S => exact fun H' r' e so => Good.ext (show Good K mg t E r H (k a S) R from g) e
  | exc c S => exact g
  | bad => exact g
theorem Good.mono {m : Out A} {R R' : A → Sto → List Addr → Hp → Prop} (g : Good K mg t E r H m R) (h : ∀ a S r' H', Ext r H r' H' → SOk K mg H' r' t S → R a S r' H' → R' a S r' H') : Good K mg t E r H m R' := by
  cases m with
  | ok a S => exact fun H' r' e so => h a S r' H' e so (g H' r' e so)
  | exc c S => exact g
  | bad => exact g
theorem Good.here {a : A} {R : A → Sto → List Addr → Hp → Prop} (g : Good K mg t E r H (.ok a S) R) (so : SOk K mg H r t S) : R a S r H := g H r (Ext.refl r H) so
theorem Good.lift {o : Option A} {R : A → Sto → List Addr → Hp → Prop} (g : Good K mg t E r H (lift o S) R) : ∃ a, o = some a ∧ Good K mg t E r H (.ok a S) R := by
  cases o with
  | none => exact (show False from g).elim
  | some a => exact ⟨a, rfl, g⟩
end

/-! ### readings -/
abbrev EW (W : WX) (σ : St) : Addr → Hp → Prop := fun C H' => W (.ref C) none σ H'
def tE (X : Cx) (W : WX) (f : DE) : TE := fun σ H Q => ∃ r t S env, Rel X.K X.mg H r t S env σ ∧ Good X.K X.mg t (EW W σ) r H (f env S) fun d _ r' H' => ∀ v, Den X.K H' r' t v d → Q v H'
def tB' (X : Cx) (W : WX) (f : DB) : TT := fun σ H Q => ∃ r t S env, Rel X.K X.mg H r t S env σ ∧ Good X.K X.mg t (EW W σ) r H (f env S) fun d _ r' H' => Q d H'
def tA (X : Cx) (W : WX) (f : DA) : TA := fun σ H Q => ∃ r t S env, Rel X.K X.mg H r t S env σ ∧ Good X.K X.mg t (EW W σ) r H (f env S) fun ds _ r' H' => ∀ vs, DenL X.K H' r' t vs ds → Q vs H'

section
variable {X : Cx} {W : WX} {e a b c : Expr} {es : List Expr} {f fa fb fc : DE} {pos : Pos} {te : TE} {σ : St} {H : Hp}
theorem PE.imp {e : Expr} {u u' : TE} (h : PE X e u) (k : ∀ σ H Q, u' σ H Q → u σ H Q) : PE X e u' := ⟨fun pins s σ H Q I q => h.run pins s σ H Q I (k σ H Q q)⟩
theorem PT.imp {e : Expr} {u u' : TT} (h : PT X e u) (k : ∀ σ H Q, u' σ H Q → u σ H Q) : PT X e u' := ⟨fun pins s σ H Q I q => h.run pins s σ H Q I (k σ H Q q)⟩
theorem PA.imp {e : List Expr} {u u' : TA} (h : PA X e u) (k : ∀ σ H Q, u' σ H Q → u σ H Q) : PA X e u' := ⟨fun pos pins s σ H Q I q => h.run pos pins s σ H Q I (k σ H Q q)⟩

/-- one expression, then what hangs on it -/
theorem tE_one {k : Ev → D → Sto → Out D} {Q : VK} {R : V → Hp → Prop} (h : tE X W (fun env S => (fa env S).bind (k env)) σ H Q)
    (hk : ∀ r t S env x v H', Rel X.K X.mg H' r t S env σ → Den X.K H' r t v x → Good X.K X.mg t (EW W σ) r H' (k env x S) (fun d _ r' H' => ∀ v, Den X.K H' r' t v d → Q v H') → R v H') : tE X W fa σ H R := by
  obtain ⟨r, t, S, env, rel, g⟩ := h
  exact ⟨r, t, S, env, rel, g.bind.mono fun x S1 r1 H1 e so g1 v dv => hk r1 t S1 env x v H1 (rel.ext e so) dv g1⟩
/-- two in a row -/
theorem tE_two {k : Ev → D → D → Sto → Out D} {Q : VK} {R : V → V → Hp → Prop} (h : tE X W (fun env S => (fa env S).bind fun x S1 => (fb env S1).bind fun y S2 => k env x y S2) σ H Q)
    (hk : ∀ r t S env x y v u H', Rel X.K X.mg H' r t S env σ → Den X.K H' r t v x → Den X.K H' r t u y → Good X.K X.mg t (EW W σ) r H' (k env x y S) (fun d _ r' H' => ∀ v, Den X.K H' r' t v d → Q v H') → R v u H') :
    tE X W fa σ H fun v H1 => tE X W fb σ H1 fun u H2 => R v u H2 := by
  obtain ⟨r, t, S, env, rel, g⟩ := h
  refine ⟨r, t, S, env, rel, g.bind.mono fun x S1 r1 H1 e so g1 v dv => ?_⟩
  exact ⟨r1, t, S1, env, rel.ext e so, g1.bind.mono fun y S2 r2 H2 e2 so2 g2 u du => hk r2 t S2 env x y v u H2 ((rel.ext e so).ext e2 so2) (Den.ext e2 x v dv) du g2⟩

/-! ### names, constants -/
def dVar (i : Nat) : DE := fun env S => match env[i]? with
  | some (some d) => .ok d S
  | _ => .bad
def dC (d : D) : DE := fun _ S => .ok d S
theorem de_var (i : Nat) {x : Str} {pos : Pos} (hN : X.N[i]? = some x := by rfl) (hv : Vis X.env.scope x := by first | exact Or.inl rfl | exact Or.inr (Or.inl rfl) | exact Or.inr (Or.inr rfl)) (hd : (x == ("__debug__" : Str)) = false := by decide)
    (hcd : (x == ("__classdict__" : Str)) = false := by decide) : PE X (.Name x pos) (tE X W (dVar i)) := by
  refine PE.imp (pe_var hN hv hd hcd) fun σ H Q h => ?_
  obtain ⟨r, t, S, env, rel, g⟩ := h
  unfold dVar at g
  split at g
  · rename_i d q
    obtain ⟨v, h1, h2⟩ := rel.en i d q
    exact ⟨v, h1, g.here rel.so v h2⟩
  · exact (show False from g).elim
theorem de_const {v : V} {d : D} (h : PE X e (tC v)) (hd : ∀ K H r t, Den K H r t v d) : PE X e (tE X W (dC d)) := by
  refine PE.imp h fun σ H Q q => ?_
  obtain ⟨r, t, S, env, rel, g⟩ := q
  exact g.here rel.so v (hd _ _ _ _)
theorem de_int {i j} : PE X (.Constant (.int i) j pos) (tE X W (dC (.int i))) := de_const pe_int fun _ _ _ _ => .int i
theorem de_bl {b j} : PE X (.Constant (.bool b) j pos) (tE X W (dC (.bl b))) := de_const pe_bl fun _ _ _ _ => .bl b
theorem de_non {j} : PE X (.Constant .none j pos) (tE X W (dC .non)) := de_const pe_non fun _ _ _ _ => .non
theorem de_str {x j} : PE X (.Constant (.str x) j pos) (tE X W (dC (.str x))) := de_const pe_str fun _ _ _ _ => .str x
theorem de_ty {x : Str} {n : String} (hg : Gl X x) (hm : X.mg x = none) (hv : bootBuiltins x = some (.type n)) (hn : x ≠ "__name__" := by decide) (hd : (x == ("__debug__" : Str)) = false := by decide) : PE X (.Name x pos) (tE X W (dC (.ty n))) :=
  de_const (pe_bltn hg hm hv (v := .ty n) rfl hn hd) fun _ _ _ _ => .ty n
/-- a constant of the module -/
theorem de_glob {x : Str} {v : V} {u : Value} {d : D} (hg : Gl X x) (hm : X.mg x = some u) (rv : RelV v u) (hd : ∀ H r t, Den X.K H r t v d) (hb : (x == ("__debug__" : Str)) = false := by decide) : PE X (.Name x pos) (tE X W (dC d)) := by
  refine PE.imp (pe_glob hg hm rv hb) fun σ H Q q => ?_
  obtain ⟨r, t, S, env, rel, g⟩ := q
  exact g.here rel.so v (hd _ _ _)

/-! ### operators -/
structure OpD (X : Cx) (f : Value → Value → Sem Value) (o : Sto → D → D → Option D) : Prop where
  ex : ∃ rr : R2, OpR X f rr ∧ ∀ r t S H x y v u d (Q : VK), SOk X.K X.mg H r t S → Den X.K H r t v x → Den X.K H r t u y → o S x y = some d →
    (∀ w H', Ext r H r H' → SOk X.K X.mg H' r t S → Den X.K H' r t w d → Q w H') → rr v u H Q
def orO (o o' : Sto → D → D → Option D) : Sto → D → D → Option D := fun S x y => match o S x y with
  | some d => some d
  | none => o' S x y
theorem OpD.or {f : Value → Value → Sem Value} {o o' : Sto → D → D → Option D} (h : OpD X f o) (h' : OpD X f o') : OpD X f (orO o o') := by
  obtain ⟨r1, h1, k1⟩ := h
  obtain ⟨r2, h2, k2⟩ := h'
  refine ⟨_, h1.or h2, fun r t S H x y v u d Q so dx dy e q => ?_⟩
  unfold orO at e
  split at e
  · rename_i d' e'
    cases e
    exact .inl (k1 r t S H x y v u _ Q so dx dy e' q)
  · exact .inr (k2 r t S H x y v u d Q so dx dy e q)
def dBin (o : Sto → D → D → Option D) (fa fb : DE) : DE := fun env S => (fa env S).bind fun x S1 => (fb env S1).bind fun y S2 => lift (o S2 x y) S2
theorem tE_op {o : Sto → D → D → Option D} {f : Value → Value → Sem Value} {rr : R2} {Q : VK}
    (k : ∀ r t S H x y v u d (Q : VK), SOk X.K X.mg H r t S → Den X.K H r t v x → Den X.K H r t u y → o S x y = some d → (∀ w H', Ext r H r H' → SOk X.K X.mg H' r t S → Den X.K H' r t w d → Q w H') → rr v u H Q)
    (h : tE X W (dBin o fa fb) σ H Q) : tOp rr (tE X W fa) (tE X W fb) σ H Q :=
  tE_two h fun r t S env x y v u H' rel dx dy g => by
    obtain ⟨d, e, g⟩ := g.lift
    exact k r t S H' x y v u d Q rel.so dx dy e fun w H2 ex so dw => g H2 r ex so w dw
theorem de_bin {op : Operator} {o : Sto → D → D → Option D} (ho : OpD X (binaryOp op) o) (ha : PE X a (tE X W fa)) (hb : PE X b (tE X W fb)) : PE X (.BinOp a op b pos) (tE X W (dBin o fa fb)) := by
  obtain ⟨rr, h, k⟩ := ho
  exact PE.imp (pe_op h ha hb) fun σ H Q q => tE_op (f := binaryOp op) k q
theorem de_cmp {op : CmpOp} {o : Sto → D → D → Option D} (ho : OpD X (compareOp op) o) (ha : PE X a (tE X W fa)) (hb : PE X b (tE X W fb)) (hm : behindInMarks op b = false) : PE X (.Compare a [op] [b] pos) (tE X W (dBin o fa fb)) := by
  obtain ⟨rr, h, k⟩ := ho
  exact PE.imp (pe_cmpR h ha hb hm) fun σ H Q q => tE_op (f := compareOp op) k q
/-- a test by a value that is a truth -/
def asB : D → Option Bool
  | .bl b => some b
  | _ => none
def dTst (f : DE) : DB := fun env S => (f env S).bind fun d S1 => lift (asB d) S1
theorem asB_eq {d : D} {b : Bool} (h : asB d = some b) : d = .bl b := by
  cases d <;> simp [asB] at h
  rw [h]
theorem tB_test {te : TE} (h : ∀ σ H Q, tE X W f σ H Q → te σ H Q) {Q : Bool → Hp → Prop} (q : tB' X W (dTst f) σ H Q) : te σ H fun x H' => ∃ k, x = .bl k ∧ Q k H' := by
  refine h σ H _ ?_
  obtain ⟨r, t, S, env, rel, g⟩ := q
  refine ⟨r, t, S, env, rel, g.bind.mono fun x S1 r1 H1 e so g1 v dv => ?_⟩
  obtain ⟨b, eb, g2⟩ := g1.lift
  have ed := asB_eq eb
  subst ed
  cases dv
  exact ⟨b, rfl, g2.here so⟩
theorem dt_cmp {op : CmpOp} {o : Sto → D → D → Option D} (ho : OpD X (compareOp op) o) (ha : PE X a (tE X W fa)) (hb : PE X b (tE X W fb)) (hm : behindInMarks op b = false) : PT X (.Compare a [op] [b] pos) (tB' X W (dTst (dBin o fa fb))) := by
  obtain ⟨rr, h, k⟩ := ho
  exact PT.imp (pt_cmpR h ha hb hm) fun σ H Q q => tB_test (te := tOp rr (tE X W fa) (tE X W fb)) (fun σ H Q q => tE_op (f := compareOp op) k q) q
theorem dt_val (he : PE X e (tE X W f)) (ht : ∀ whole, isTrue e X.env whole = (do let v ← whole; standAt e.pos; holding [v] (truthy v)) := by intro _; rfl) : PT X e (tB' X W (dTst f)) :=
  PT.imp (pt_val he ht) fun σ H Q q => tB_test (te := tE X W f) (fun _ _ _ z => z) q
/-- a op1 b op2 c -/
def dChain (o o' : Sto → D → D → Option D) (fa fb fc : DE) : DE := fun env S => (fa env S).bind fun x S1 => (fb env S1).bind fun y S2 => (lift (o S2 x y) S2).bind fun z S3 => (lift (asB z) S3).bind fun k S4 =>
  if k = true then (fc env S4).bind fun w S5 => lift (o' S5 y w) S5 else .ok (.bl false) S4
theorem tE_chain {o o' : Sto → D → D → Option D} {f f' : Value → Value → Sem Value} {rr rr' : R2} {Q : VK}
    (k : ∀ r t S H x y v u d (Q : VK), SOk X.K X.mg H r t S → Den X.K H r t v x → Den X.K H r t u y → o S x y = some d → (∀ w H', Ext r H r H' → SOk X.K X.mg H' r t S → Den X.K H' r t w d → Q w H') → rr v u H Q)
    (k' : ∀ r t S H x y v u d (Q : VK), SOk X.K X.mg H r t S → Den X.K H r t v x → Den X.K H r t u y → o' S x y = some d → (∀ w H', Ext r H r H' → SOk X.K X.mg H' r t S → Den X.K H' r t w d → Q w H') → rr' v u H Q)
    (h : tE X W (dChain o o' fa fb fc) σ H Q) : tChain rr rr' (tE X W fa) (tE X W fb) (tE X W fc) σ H Q :=
  tE_two h fun r t S env x y v u H' rel dx dy g => by
    obtain ⟨z, e, g⟩ := g.bind.lift
    refine k r t S H' x y v u z _ rel.so dx dy e fun w H2 ex so dw => ?_
    have g2 := (g H2 r ex so).bind
    obtain ⟨kk, e2, g3⟩ := g2.lift
    have ez := asB_eq e2
    subst ez
    cases dw
    refine ⟨kk, rfl, ?_⟩
    have g4 := g3.here so
    cases kk with
    | false =>
      rw [if_neg Bool.false_ne_true] at g4 ⊢
      exact g4.here so _ (.bl false)
    | true =>
      rw [if_pos rfl] at g4 ⊢
      refine ⟨r, t, S, env, rel.ext ex so, g4.bind.mono fun x2 S5 r5 H5 e5 so5 g5 v5 d5 => ?_⟩
      obtain ⟨d, e6, g6⟩ := g5.lift
      exact k' r5 t S5 H5 y x2 u v5 d Q so5 (Den.ext e5 _ _ (Den.ext ex _ _ dy)) d5 e6 fun w H6 ex6 so6 dw6 => g6 H6 r5 ex6 so6 w dw6
theorem de_chain {op op' : CmpOp} {o o' : Sto → D → D → Option D} (ho : OpD X (compareOp op) o) (ho' : OpD X (compareOp op') o') (ha : PE X a (tE X W fa)) (hb : PE X b (tE X W fb)) (hc : PE X c (tE X W fc))
    (hm : lastMarks [op, op'] [b, c] = false := by with_unfolding_all rfl) : PE X (.Compare a [op, op'] [b, c] pos) (tE X W (dChain o o' fa fb fc)) := by
  obtain ⟨rr, h, k⟩ := ho
  obtain ⟨rr', h', k'⟩ := ho'
  exact PE.imp (pe_chain h h' ha hb hc hm) fun σ H Q q => tE_chain (f := compareOp op) (f' := compareOp op') k k' q
theorem dt_chain {op op' : CmpOp} {o o' : Sto → D → D → Option D} (ho : OpD X (compareOp op) o) (ho' : OpD X (compareOp op') o') (ha : PE X a (tE X W fa)) (hb : PE X b (tE X W fb)) (hc : PE X c (tE X W fc))
    (hm : lastMarks [op, op'] [b, c] = false := by with_unfolding_all rfl) : PT X (.Compare a [op, op'] [b, c] pos) (tB' X W (dTst (dChain o o' fa fb fc))) := by
  obtain ⟨rr, h, k⟩ := ho
  obtain ⟨rr', h', k'⟩ := ho'
  exact PT.imp (pt_chain h h' ha hb hc hm) fun σ H Q q => tB_test (te := tChain rr rr' (tE X W fa) (tE X W fb) (tE X W fc)) (fun σ H Q q => tE_chain (f := compareOp op) (f' := compareOp op') k k' q) q

/-! ### and, or, not, if else -/
def dAnd (fa fb : DE) : DE := fun env S => (fa env S).bind fun x S1 => (lift (asB x) S1).bind fun k S2 => if k = true then fb env S2 else .ok (.bl false) S2
def dOr (fa fb : DE) : DE := fun env S => (fa env S).bind fun x S1 => (lift (asB x) S1).bind fun k S2 => if k = true then .ok (.bl true) S2 else fb env S2
def dNot (fa : DE) : DE := fun env S => (fa env S).bind fun x S1 => (lift (asB x) S1).bind fun k S2 => .ok (.bl (!k)) S2
def bAnd (ta tb : DB) : DB := fun env S => (ta env S).bind fun k S1 => if k = true then tb env S1 else .ok false S1
def bOr (ta tb : DB) : DB := fun env S => (ta env S).bind fun k S1 => if k = true then .ok true S1 else tb env S1
def bNot (ta : DB) : DB := fun env S => (ta env S).bind fun k S1 => .ok (!k) S1
def dIf (tc : DB) (fa fb : DE) : DE := fun env S => (tc env S).bind fun k S1 => if k = true then fa env S1 else fb env S1
variable {rest : List Expr} {ga gb : DB}
theorem de_and (ha : PE X a (tE X W fa)) (hb : PE X (.BoolOp .And (b :: rest) pos) (tE X W fb)) : PE X (.BoolOp .And (a :: b :: rest) pos) (tE X W (dAnd fa fb)) := by
  refine PE.imp (pe_and ha hb) fun σ H Q q => ?_
  obtain ⟨r, t, S, env, rel, g⟩ := q
  refine ⟨r, t, S, env, rel, g.bind.mono fun x S1 r1 H1 e so g1 v dv => ?_⟩
  obtain ⟨k, ek, g2⟩ := g1.bind.lift
  have ed := asB_eq ek
  subst ed
  cases dv
  refine ⟨k, rfl, ?_⟩
  have g3 := g2.here so
  cases k with
  | true => exact iteT ⟨r1, t, S1, env, rel.ext e so, g3⟩
  | false => exact iteF (Good.here g3 so _ (.bl false))
theorem de_or (ha : PE X a (tE X W fa)) (hb : PE X (.BoolOp .Or (b :: rest) pos) (tE X W fb)) : PE X (.BoolOp .Or (a :: b :: rest) pos) (tE X W (dOr fa fb)) := by
  refine PE.imp (pe_or ha hb) fun σ H Q q => ?_
  obtain ⟨r, t, S, env, rel, g⟩ := q
  refine ⟨r, t, S, env, rel, g.bind.mono fun x S1 r1 H1 e so g1 v dv => ?_⟩
  obtain ⟨k, ek, g2⟩ := g1.bind.lift
  have ed := asB_eq ek
  subst ed
  cases dv
  refine ⟨k, rfl, ?_⟩
  have g3 := g2.here so
  cases k with
  | false => exact iteF ⟨r1, t, S1, env, rel.ext e so, g3⟩
  | true => exact iteT (Good.here g3 so _ (.bl true))
theorem de_one {op} (ha : PE X a (tE X W fa)) : PE X (.BoolOp op [a] pos) (tE X W fa) := pe_one ha
theorem de_not (ha : PE X a (tE X W fa)) : PE X (.UnaryOp .Not a pos) (tE X W (dNot fa)) := by
  refine PE.imp (pe_not ha) fun σ H Q q => ?_
  obtain ⟨r, t, S, env, rel, g⟩ := q
  refine ⟨r, t, S, env, rel, g.bind.mono fun x S1 r1 H1 e so g1 v dv => ?_⟩
  obtain ⟨k, ek, g2⟩ := g1.bind.lift
  have ed := asB_eq ek
  subst ed
  cases dv
  exact ⟨k, rfl, Good.here (g2.here so) so _ (.bl (!k))⟩
theorem PW.imp {e : Expr} {u u' : TT} (h : PW X e u) (k : ∀ σ H Q, u' σ H Q → u σ H Q) : PW X e u' := ⟨fun wh pins s σ H Q I q => h.run wh pins s σ H Q I (k σ H Q q)⟩
theorem dw_and1 (ha : PT X a (tB' X W ga)) : PW X (.BoolOp .And [a] pos) (tB' X W ga) := pw_and1 ha
theorem dw_or1 (ha : PT X a (tB' X W ga)) : PW X (.BoolOp .Or [a] pos) (tB' X W ga) := pw_or1 ha
theorem dw_and (ha : PT X a (tB' X W ga)) (hb : PW X (.BoolOp .And (b :: rest) pos) (tB' X W gb)) : PW X (.BoolOp .And (a :: b :: rest) pos) (tB' X W (bAnd ga gb)) := by
  refine PW.imp (pw_and ha hb) fun σ H Q q => ?_
  obtain ⟨r, t, S, env, rel, g⟩ := q
  refine ⟨r, t, S, env, rel, g.bind.mono fun k S1 r1 H1 e so g1 => ?_⟩
  cases k with
  | true => exact iteT ⟨r1, t, S1, env, rel.ext e so, g1⟩
  | false => exact iteF (Good.here g1 so)
theorem dw_or (ha : PT X a (tB' X W ga)) (hb : PW X (.BoolOp .Or (b :: rest) pos) (tB' X W gb)) : PW X (.BoolOp .Or (a :: b :: rest) pos) (tB' X W (bOr ga gb)) := by
  refine PW.imp (pw_or ha hb) fun σ H Q q => ?_
  obtain ⟨r, t, S, env, rel, g⟩ := q
  refine ⟨r, t, S, env, rel, g.bind.mono fun k S1 r1 H1 e so g1 => ?_⟩
  cases k with
  | false => exact iteF ⟨r1, t, S1, env, rel.ext e so, g1⟩
  | true => exact iteT (Good.here g1 so)
theorem dt_not (ha : PT X a (tB' X W ga)) : PT X (.UnaryOp .Not a pos) (tB' X W (bNot ga)) := by
  refine PT.imp (pt_not ha) fun σ H Q q => ?_
  obtain ⟨r, t, S, env, rel, g⟩ := q
  exact ⟨r, t, S, env, rel, g.bind.mono fun k S1 r1 H1 e so g1 => Good.here g1 so⟩
theorem de_if {c : Expr} (hc : PT X c (tB' X W ga)) (ha : PE X a (tE X W fa)) (hb : PE X b (tE X W fb)) : PE X (.IfExp c a b pos) (tE X W (dIf ga fa fb)) := by
  refine PE.imp (pe_ifExp hc ha hb) fun σ H Q q => ?_
  obtain ⟨r, t, S, env, rel, g⟩ := q
  refine ⟨r, t, S, env, rel, g.bind.mono fun k S1 r1 H1 e so g1 => ?_⟩
  cases k with
  | true => exact iteT ⟨r1, t, S1, env, rel.ext e so, g1⟩
  | false => exact iteF ⟨r1, t, S1, env, rel.ext e so, g1⟩

/-! ### argument lists, displays -/
def aNil : DA := fun _ S => .ok [] S
def aCons (f : DE) (g : DA) : DA := fun env S => (f env S).bind fun d S1 => (g env S1).bind fun ds S2 => .ok (d :: ds) S2
variable {fs : DA}
theorem da_nil : PA X [] (tA X W aNil) := by
  refine PA.imp pa_nil fun σ H Q q => ?_
  obtain ⟨r, t, S, env, rel, g⟩ := q
  exact Good.here g rel.so [] .nil
theorem da_cons (ha : PE X e (tE X W f)) (hr : PA X es (tA X W fs)) (hs : starEach (e :: es) X.env = (false, eval e X.env) :: starEach es X.env := by rfl) : PA X (e :: es) (tA X W (aCons f fs)) := by
  refine PA.imp (pa_cons ha hr hs) fun σ H Q q => ?_
  obtain ⟨r, t, S, env, rel, g⟩ := q
  refine ⟨r, t, S, env, rel, g.bind.mono fun d S1 r1 H1 ex so g1 v dv => ?_⟩
  refine ⟨r1, t, S1, env, rel.ext ex so, g1.bind.mono fun ds S2 r2 H2 ex2 so2 g2 vs dvs => ?_⟩
  exact Good.here g2 so2 _ (.cons (Den.ext ex2 _ _ dv) dvs)
def dTup (fs : DA) : DE := fun env S => (fs env S).bind fun ds S1 => if ds.length ≤ sizeLine then .ok (.tup ds) S1 else .bad
def dLst (fs : DA) : DE := fun env S => (fs env S).bind fun ds S1 => if ds.length ≤ sizeLine then .ok (.lst ds) S1 else .bad
/-- a list that will be changed -/
def dCell (fs : DA) : DE := fun env S => (fs env S).bind fun ds S1 => if ds.length ≤ sizeLine then .ok (.ref S1.length) (S1 ++ [.lst ds]) else .bad
theorem Good.ite {A : Type} {K : PySem.W.Frag} {mg : Str → Option Value} {t : List Addr} {E : Addr → Hp → Prop} {r : List Addr} {p : Prop} [Decidable p] {m : Out A} {R : A → Sto → List Addr → Hp → Prop}
    (g : Good K mg t E r H (if p then m else .bad) R) : p ∧ Good K mg t E r H m R := by
  by_cases h : p
  · rw [if_pos h] at g; exact ⟨h, g⟩
  · rw [if_neg h] at g; exact (show False from g).elim
theorem de_tup {x1} (h : PA X es (tA X W fs)) : PE X (.Tuple es x1 pos) (tE X W (dTup fs)) := by
  refine PE.imp (pe_tup h) fun σ H Q q => ?_
  obtain ⟨r, t, S, env, rel, g⟩ := q
  refine ⟨r, t, S, env, rel, g.bind.mono fun ds S1 r1 H1 ex so g1 vs dvs => ?_⟩
  obtain ⟨hl, g2⟩ := g1.ite
  refine ⟨by rw [dvs.length]; exact hl, fun p hp => ?_⟩
  exact g2 _ r1 (Ext.new hp) (so.new hp) _ (.tup upd_same (DenL.ext (Ext.new hp) _ _ dvs))
theorem notinNew {K : PySem.W.Frag} {mg : Str → Option Value} {r t : List Addr} {S : Sto} {p : Addr} (so : SOk K mg H r t S) (hp : H p = none) : p ∉ r ∧ p ∉ t := by
  refine ⟨fun z => ?_, fun z => (so.hid p z).1 hp⟩
  obtain ⟨o, e, _⟩ := so.memThere z
  rw [hp] at e; cases e
theorem de_lst (h : PA X es (tA X W fs)) : PE X (.List es pos) (tE X W (dLst fs)) := by
  refine PE.imp (pe_lst h) fun σ H Q q => ?_
  obtain ⟨r, t, S, env, rel, g⟩ := q
  refine ⟨r, t, S, env, rel, g.bind.mono fun ds S1 r1 H1 ex so g1 vs dvs => ?_⟩
  obtain ⟨hl, g2⟩ := g1.ite
  refine ⟨by rw [dvs.length]; exact hl, fun p hp => ?_⟩
  have nn := notinNew so hp
  exact g2 _ r1 (Ext.new hp) (so.new hp) _ (.lst upd_same nn.1 nn.2 (DenL.ext (Ext.new hp) _ _ dvs))
theorem growL {K : PySem.W.Frag} {mg : Str → Option Value} {r t : List Addr} {S : Sto} {p : Addr} {vs : List V} {ds : List D} (so : SOk K mg H r t S) (hp : H p = none) (h : DenL K H r t vs ds) :
    SOk K mg (upd H p (.lst vs)) (r ++ [p]) t (S ++ [.lst ds]) ∧ Den K (upd H p (.lst vs)) (r ++ [p]) t (.ref p) (.ref S.length) := by
  refine ⟨so.grow hp ⟨vs, upd_same, DenL.ext (Ext.grow hp) _ _ h⟩, .ref ?_⟩
  rw [← so.len, List.getElem?_append_right (Nat.le_refl _), Nat.sub_self]
  rfl
theorem de_cell (h : PA X es (tA X W fs)) : PE X (.List es pos) (tE X W (dCell fs)) := by
  refine PE.imp (pe_lst h) fun σ H Q q => ?_
  obtain ⟨r, t, S, env, rel, g⟩ := q
  refine ⟨r, t, S, env, rel, g.bind.mono fun ds S1 r1 H1 ex so g1 vs dvs => ?_⟩
  obtain ⟨hl, g2⟩ := g1.ite
  refine ⟨by rw [dvs.length]; exact hl, fun p hp => ?_⟩
  obtain ⟨so2, d2⟩ := growL so hp dvs
  exact g2 _ _ (Ext.grow hp) so2 _ d2

/-! ### calls -/
structure CallD (X : Cx) (f : Value) (o : Sto → List D → Option D) : Prop where
  ex : ∃ rr : List V → Hp → VK → Prop, CallR X f rr ∧ ∀ r t S H ds vs d (Q : VK), SOk X.K X.mg H r t S → DenL X.K H r t vs ds → o S ds = some d →
    (∀ w H', Ext r H r H' → SOk X.K X.mg H' r t S → Den X.K H' r t w d → Q w H') → rr vs H Q
def orC (o o' : Sto → List D → Option D) : Sto → List D → Option D := fun S x => match o S x with
  | some d => some d
  | none => o' S x
theorem CallD.or {f : Value} {o o' : Sto → List D → Option D} (h : CallD X f o) (h' : CallD X f o') : CallD X f (orC o o') := by
  obtain ⟨r1, h1, k1⟩ := h
  obtain ⟨r2, h2, k2⟩ := h'
  refine ⟨_, CallR.or h1 h2, fun r t S H ds vs d Q so dv e q => ?_⟩
  unfold orC at e
  split at e
  · rename_i d' e'
    cases e
    exact .inl (k1 r t S H ds vs _ Q so dv e' q)
  · exact .inr (k2 r t S H ds vs d Q so dv e q)
def dCall (o : Sto → List D → Option D) (fs : DA) : DE := fun env S => (fs env S).bind fun ds S1 => lift (o S1 ds) S1
theorem tE_call {o : Sto → List D → Option D} {rr : List V → Hp → VK → Prop} {Q : VK}
    (k : ∀ r t S H ds vs d (Q : VK), SOk X.K X.mg H r t S → DenL X.K H r t vs ds → o S ds = some d → (∀ w H', Ext r H r H' → SOk X.K X.mg H' r t S → Den X.K H' r t w d → Q w H') → rr vs H Q)
    (h : tE X W (dCall o fs) σ H Q) : tCB rr (tA X W fs) σ H Q := by
  obtain ⟨r, t, S, env, rel, g⟩ := h
  refine ⟨r, t, S, env, rel, g.bind.mono fun ds S1 r1 H1 ex so g1 vs dvs => ?_⟩
  obtain ⟨d, e, g2⟩ := g1.lift
  exact k r1 t S1 H1 ds vs d Q so dvs e fun w H2 e2 so2 dw => g2 H2 r1 e2 so2 w dw
theorem de_callB {id : String} {x : Str} {p : Pos} {o : Sto → List D → Option D} (hc : CallD X (.builtin id) o) (hg : Gl X x) (hm : X.mg x = none) (hv : bootBuiltins x = some (.builtin id)) (ha : PA X (e :: es) (tA X W fs)) (hn : x ≠ "__name__" := by decide) (hdb : (x == ("__debug__" : Str)) = false := by decide)
    (he : starEach (e :: es) X.env = (false, eval e X.env) :: starEach es X.env := by rfl) (hpl : (backTo pos (starEach es X.env)).any (·.1) = false := by rfl) : PE X (.Call (.Name x p) (e :: es) [] pos) (tE X W (dCall o fs)) := by
  obtain ⟨rr, h, k⟩ := hc
  exact PE.imp (pe_callB h hg hm hv ha hn hdb he hpl) fun σ H Q q => tE_call k q
theorem de_callTy {T : String} {x : Str} {p : Pos} {o : Sto → List D → Option D} (hc : CallD X (.type T) o) (hg : Gl X x) (hm : X.mg x = none) (hv : bootBuiltins x = some (.type T)) (ha : PA X (e :: es) (tA X W fs)) (hn : x ≠ "__name__" := by decide) (hdb : (x == ("__debug__" : Str)) = false := by decide)
    (he : starEach (e :: es) X.env = (false, eval e X.env) :: starEach es X.env := by rfl) (hpl : (backTo pos (starEach es X.env)).any (·.1) = false := by rfl) : PE X (.Call (.Name x p) (e :: es) [] pos) (tE X W (dCall o fs)) := by
  obtain ⟨rr, h, k⟩ := hc
  exact PE.imp (pe_callTy h hg hm hv ha hn hdb he hpl) fun σ H Q q => tE_call k q
/-- a def's promise by its function -/
def spD (K : PySem.W.Frag) (mg : Str → Option Value) (n : Nat) (f : Fn) : Sp := fun vs H Q E => vs.length = n ∧ ∃ r t S ds, SOk K mg H r t S ∧ DenL K H r t vs ds ∧ Good K mg t (fun C H' => E (.ref C) none H') r H (f ds S) fun d _ r' H' => ∀ v, Den K H' r' t v d → Q v H'
def dCallF (f : Fn) (fs : DA) : DE := fun env S => (fs env S).bind fun ds S1 => f ds S1
def Thru (CX : CXT) (X : Cx) (W : WX) : Prop := ∀ σ, PassesAt CX X σ (WE W σ)
theorem thru0 : Thru CX0 X W := fun _ _ _ _ _ _ _ h => h.elim
theorem thruX (tk : Takes X W) : Thru (L2.CX X.prog X.w) X W := fun σ => passAt tk σ
/-- the arguments' number is told by the written ones -/
theorem denLen {ds : List D} {vs : List V} {K : PySem.W.Frag} {r t : List Addr} (h : DenL K H r t vs ds) : vs.length = ds.length := h.length
structure ArgN (X : Cx) (W : WX) (es : List Expr) (fs : DA) (n : Nat) : Prop where
  pa : PA X es (tA X W fs)
  num : ∀ env S ds S', fs env S = .ok ds S' → ds.length = n
theorem an_nil : ArgN X W [] aNil 0 := ⟨da_nil, fun _ _ _ _ h => by cases h; rfl⟩
theorem an_cons {n : Nat} (ha : PE X e (tE X W f)) (hr : ArgN X W es fs n) (hs : starEach (e :: es) X.env = (false, eval e X.env) :: starEach es X.env := by rfl) : ArgN X W (e :: es) (aCons f fs) (n + 1) := by
  refine ⟨da_cons ha hr.pa hs, fun env S ds S' h => ?_⟩
  unfold aCons at h
  cases h1 : f env S with
  | ok d S1 =>
    rw [h1, Out.bind_ok] at h
    cases h2 : fs env S1 with
    | ok d2 S2 =>
      rw [h2, Out.bind_ok] at h
      cases h
      rw [List.length_cons, hr.num _ _ _ _ h2]
    | exc c S2 => rw [h2] at h; cases h
    | bad => rw [h2] at h; cases h
  | exc c S2 => rw [h1] at h; cases h
  | bad => rw [h1] at h; cases h
theorem de_callF {CX : CXT} {k n : Nat} {fa : Addr} {fd : FuncData} {ps : List Str} {fn : Fn} {x : Str} {p : Pos} (F : FnOk X.prog X.w X.K X.mg X.base CX k fa fd ps (spD X.K X.mg n fn)) (hr : Room k X.A) (hg : Gl X x) (hm : X.mg x = some (.ref fa)) (hk : PySem.W.keepIn X.K (.ref fa) = true) (hb : Binds X.K fd ps []) (hx : Thru CX X W)
    (ha : ArgN X W (e :: es) fs n) (hdb : (x == ("__debug__" : Str)) = false := by decide) (he : starEach (e :: es) X.env = (false, eval e X.env) :: starEach es X.env := by rfl) (hpl : (backTo pos (starEach es X.env)).any (·.1) = false := by rfl) :
    PE X (.Call (.Name x p) (e :: es) [] pos) (tE X W (dCallF fn fs)) := by
  refine PE.imp (pe_callS F hr hg hm hk hb hx ha.pa hdb he hpl) fun σ H Q q => ?_
  obtain ⟨r, t, S, env, rel, g⟩ := q
  have num := ha.num env S
  unfold dCallF at g
  cases h : fs env S with
  | ok ds S1 =>
    rw [h, Out.bind_ok] at g
    refine ⟨r, t, S, env, rel, ?_⟩
    rw [h]
    exact fun H1 r1 ex so vs dvs => ⟨dvs.length.trans (num _ _ h), r1, t, S1, ds, so, dvs, g.ext ex⟩
  | exc c S1 =>
    rw [h, Out.bind_exc] at g
    refine ⟨r, t, S, env, rel, ?_⟩
    rw [h]
    exact g
  | bad =>
    rw [h] at g
    exact (show False from g).elim
end
end DL
end L2

set_option Elab.async false
set_option linter.all false
set_option maxRecDepth 100000
namespace L2
namespace DL
open PySem PySem.Spec PyProof.Rows

/-! ### ints, texts -/
def iOp (c : Int → Int → Bool) (g : Int → Int → D) : Sto → D → D → Option D := fun _ x y => match x, y with
  | .int i, .int j => if c i j = true then some (g i j) else none
  | _, _ => none
theorem opd_int {X : Cx} {f : Value → Value → Sem Value} {C : Int → Int → Prop} {c : Int → Int → Bool} {g : Int → Int → V} {gd : Int → Int → D} (h : OpR X f (rI C g)) (hc : ∀ i j, c i j = true → C i j) (hg : ∀ i j K H r t, Den K H r t (g i j) (gd i j)) : OpD X f (iOp c gd) := by
  refine ⟨_, h, fun r t S H x y v u d Q so dx dy e q => ?_⟩
  unfold iOp at e
  split at e
  · rename_i i j
    cases dx
    cases dy
    by_cases hh : c i j = true
    · rw [if_pos hh] at e
      cases e
      exact ⟨i, j, rfl, rfl, hc i j hh, q _ _ (Ext.refl r H) so (hg _ _ _ _ _ _)⟩
    · rw [if_neg hh] at e
      cases e
  · cases e
theorem rI0_of {X : Cx} {f : Value → Value → Sem Value} {g : Int → Int → V} (h : OpR X f (rI0 g)) : OpR X f (rI (fun _ _ => True) g) := by
  intro pins s σ H x y v u Q I rx ry q
  obtain ⟨i, j, e1, e2, _, q⟩ := q
  exact h pins s σ H x y v u Q I rx ry ⟨i, j, e1, e2, q⟩
def yes2 : Int → Int → Bool := fun _ _ => true
theorem opd_int0 {X : Cx} {f : Value → Value → Sem Value} {g : Int → Int → V} {gd : Int → Int → D} (h : OpR X f (rI0 g)) (hg : ∀ i j K H r t, Den K H r t (g i j) (gd i j)) : OpD X f (iOp yes2 gd) := opd_int (rI0_of h) (fun _ _ _ => trivial) hg
section
variable {X : Cx}
def mulC (i j : Int) : Bool := decide (i.natAbs < 2 ^ 64) || decide (j.natAbs < 2 ^ 64)
def modC (_ j : Int) : Bool := decide (0 < j)
def divC (_ j : Int) : Bool := decide (0 < j) && decide (j < 2 ^ 80)
def powC (i j : Int) : Bool := decide (0 ≤ j) && decide (j ≤ 1000000) && decide (i.natAbs < 2 ^ 64)
def oAddI : Sto → D → D → Option D := iOp yes2 fun i j => .int (i + j)
def oSub : Sto → D → D → Option D := iOp yes2 fun i j => .int (i - j)
def oMulI : Sto → D → D → Option D := iOp mulC fun i j => .int (i * j)
def oMod : Sto → D → D → Option D := iOp modC fun i j => .int (i % j)
def oDiv : Sto → D → D → Option D := iOp divC fun i j => .int (i / j)
def oPow : Sto → D → D → Option D := iOp powC fun i j => .int (i ^ j.toNat)
theorem od_addI : OpD X (binaryOp .Add) oAddI := opd_int0 op_add fun _ _ _ _ _ _ => .int _
theorem od_sub : OpD X (binaryOp .Sub) oSub := opd_int0 op_sub fun _ _ _ _ _ _ => .int _
theorem od_mulI : OpD X (binaryOp .Mult) oMulI := opd_int op_mul (fun i j h => by
  unfold mulC at h
  rw [Bool.or_eq_true, decide_eq_true_eq, decide_eq_true_eq] at h
  rcases h with h | h
  · exact .inl ⟨by omega, by omega⟩
  · exact .inr ⟨by omega, by omega⟩) fun _ _ _ _ _ _ => .int _
theorem od_mod : OpD X (binaryOp .Mod) oMod := opd_int op_mod (fun i j h => of_decide_eq_true h) fun _ _ _ _ _ _ => .int _
theorem od_div : OpD X (binaryOp .FloorDiv) oDiv := opd_int op_fdivW (fun i j h => by
  unfold divC at h
  rw [Bool.and_eq_true, decide_eq_true_eq, decide_eq_true_eq] at h
  exact wide_div (b := 80) h.1 (by omega) (by decide) (by decide)) fun _ _ _ _ _ _ => .int _
theorem od_pow : OpD X (binaryOp .Pow) oPow := opd_int op_pow (fun i j h => by
  unfold powC at h
  rw [Bool.and_eq_true, Bool.and_eq_true, decide_eq_true_eq, decide_eq_true_eq, decide_eq_true_eq] at h
  exact ⟨h.1.1, h.1.2, h.2⟩) fun _ _ _ _ _ _ => .int _
def oLt : Sto → D → D → Option D := iOp yes2 fun i j => .bl (decide (i < j))
def oLe : Sto → D → D → Option D := iOp yes2 fun i j => .bl (decide (i ≤ j))
def oGt : Sto → D → D → Option D := iOp yes2 fun i j => .bl (decide (j < i))
def oGe : Sto → D → D → Option D := iOp yes2 fun i j => .bl (decide (j ≤ i))
theorem od_lt : OpD X (compareOp .Lt) oLt := opd_int0 op_lt fun _ _ _ _ _ _ => .bl _
theorem od_le : OpD X (compareOp .LtE) oLe := opd_int0 op_le fun _ _ _ _ _ _ => .bl _
theorem od_gt : OpD X (compareOp .Gt) oGt := opd_int0 op_gt fun _ _ _ _ _ _ => .bl _
theorem od_ge : OpD X (compareOp .GtE) oGe := opd_int0 op_ge fun _ _ _ _ _ _ => .bl _

/-! ### sequences -/
def lstOf (S : Sto) : D → Option (List D)
  | .lst ds => some ds
  | .ref n => match S[n]? with
    | some (.lst ds) => some ds
    | _ => none
  | _ => none
def listOf (S : Sto) : D → Option (List D)
  | .fz ds => some ds
  | d => lstOf S d
def tupOf : D → Option (List D)
  | .tup ds => some ds
  | _ => none
variable {K : PySem.W.Frag} {mg : Str → Option Value} {H : Hp} {r t : List Addr} {S : Sto} {d : D} {v : V} {ds : List D}
theorem lst_ok (so : SOk K mg H r t S) (dv : Den K H r t v d) (h : lstOf S d = some ds) : ∃ a xs, v = .ref a ∧ H a = some (.lst xs) ∧ DenL K H r t xs ds := by
  cases dv with
  | lst h1 n m z => cases h; exact ⟨_, _, rfl, h1, z⟩
  | @ref a n hn =>
    obtain ⟨c, hc, ok⟩ := so.cell hn
    have h' : (match S[n]? with | some (.lst ds) => some ds | _ => none) = some ds := h
    rw [hc] at h'
    cases c with
    | lst es =>
      have e := Option.some.inj h'
      subst e
      obtain ⟨xs, h1, h2⟩ := ok
      exact ⟨a, xs, rfl, h1, h2⟩
    | _ => cases h'
  | _ => cases h
theorem list_ok (so : SOk K mg H r t S) (dv : Den K H r t v d) (h : listOf S d = some ds) : ∃ a xs, v = .ref a ∧ SqL K H a xs ∧ DenL K H r t xs ds := by
  cases dv with
  | fz h1 z => cases h; exact ⟨_, _, rfl, h1.sq, z⟩
  | lst h1 n m z =>
    obtain ⟨a, xs, e, h2, h3⟩ := lst_ok so (.lst h1 n m z) h
    exact ⟨a, xs, e, .inl (.inl h2), h3⟩
  | ref hn =>
    obtain ⟨a, xs, e, h2, h3⟩ := lst_ok so (.ref hn) h
    exact ⟨a, xs, e, .inl (.inl h2), h3⟩
  | _ => cases h
theorem sqT_of {a : Addr} {xs : List V} (h : H a = some (.tup xs)) : SqT K H a xs := .inl (.inl h)
theorem tup_ok (dv : Den K H r t v d) (h : tupOf d = some ds) : ∃ a xs, v = .ref a ∧ H a = some (.tup xs) ∧ DenL K H r t xs ds := by
  cases dv with
  | tup h1 z => cases h; exact ⟨_, _, rfl, h1, z⟩
  | _ => cases h
/-- a new list, a new tuple -/
theorem newL {Q : VK} {p : Addr} {xs : List V} (so : SOk K mg H r t S) (hp : H p = none) (z : DenL K H r t xs ds) (q : ∀ w H', Ext r H r H' → SOk K mg H' r t S → Den K H' r t w (.lst ds) → Q w H') : Q (.ref p) (upd H p (.lst xs)) :=
  q _ _ (Ext.new hp) (so.new hp) (.lst upd_same (notinNew so hp).1 (notinNew so hp).2 (DenL.ext (Ext.new hp) _ _ z))
theorem newT {Q : VK} {p : Addr} {xs : List V} (so : SOk K mg H r t S) (hp : H p = none) (z : DenL K H r t xs ds) (q : ∀ w H', Ext r H r H' → SOk K mg H' r t S → Den K H' r t w (.tup ds) → Q w H') : Q (.ref p) (upd H p (.tup xs)) :=
  q _ _ (Ext.new hp) (so.new hp) (.tup upd_same (DenL.ext (Ext.new hp) _ _ z))
def oAddS : Sto → D → D → Option D := fun _ x y => match x, y with
  | .str a, .str b => if a.length + b.length ≤ sizeLine then some (.str (a ++ b)) else none
  | _, _ => none
theorem od_addS : OpD X (binaryOp .Add) oAddS := by
  refine ⟨_, op_add_str, fun r t S H x y v u d Q so dx dy e q => ?_⟩
  unfold oAddS at e
  split at e
  · cases dx
    cases dy
    split at e
    · cases e
      exact ⟨_, _, rfl, rfl, by assumption, q _ _ (Ext.refl _ _) so (.str _)⟩
    · cases e
  · cases e
def oAddT : Sto → D → D → Option D := fun _ x y => match tupOf x, tupOf y with
  | some a, some b => if a.length + b.length ≤ sizeLine then some (.tup (a ++ b)) else none
  | _, _ => none
theorem od_addT : OpD X (binaryOp .Add) oAddT := by
  refine ⟨_, op_catA, fun r t S H x y v u d Q so dx dy e q => ?_⟩
  unfold oAddT at e
  split at e
  · rename_i a b ea eb
    obtain ⟨p, xs, rfl, h1, z1⟩ := tup_ok dx ea
    obtain ⟨p2, ys, rfl, h2, z2⟩ := tup_ok dy eb
    split at e
    · rename_i hl
      cases e
      refine ⟨p, p2, xs, ys, rfl, rfl, sqT_of h1, sqT_of h2, by rw [z1.length, z2.length]; exact hl, fun e0 => ?_, fun _ e0 => ?_, fun _ _ n hn => newT so hn (z1.append z2) q⟩
      · subst e0
        cases z1
        exact q _ _ (Ext.refl _ _) so (.tup h2 z2)
      · subst e0
        cases z2
        refine q _ _ (Ext.refl _ _) so ?_
        rw [List.append_nil]
        exact .tup h1 z1
    · cases e
  · cases e
def oAddL : Sto → D → D → Option D := fun S x y => match lstOf S x, lstOf S y with
  | some a, some b => if a.length + b.length ≤ sizeLine then some (.lst (a ++ b)) else none
  | _, _ => none
theorem od_addL : OpD X (binaryOp .Add) oAddL := by
  refine ⟨_, op_cat, fun r t S H x y v u d Q so dx dy e q => ?_⟩
  unfold oAddL at e
  split at e
  · rename_i a b ea eb
    obtain ⟨p, xs, rfl, h1, z1⟩ := lst_ok so dx ea
    obtain ⟨p2, ys, rfl, h2, z2⟩ := lst_ok so dy eb
    split at e
    · rename_i hl
      cases e
      exact ⟨p, p2, xs, ys, rfl, rfl, h1, h2, by rw [z1.length, z2.length]; exact hl, fun n hn => newL so hn (z1.append z2) q⟩
    · cases e
  · cases e
def oAdd : Sto → D → D → Option D := orO oAddI (orO oAddL (orO oAddT oAddS))
theorem od_add : OpD X (binaryOp .Add) oAdd := od_addI.or (od_addL.or (od_addT.or od_addS))
def oRepL : Sto → D → D → Option D := fun S x y => match lstOf S x, y with
  | some a, .int k => if -(2 ^ 63) ≤ k ∧ k < 2 ^ 63 ∧ a.length * k.toNat ≤ sizeLine then some (.lst (List.replicate k.toNat a).flatten) else none
  | _, _ => none
theorem od_repL : OpD X (binaryOp .Mult) oRepL := by
  refine ⟨_, op_rep, fun r t S H x y v u d Q so dx dy e q => ?_⟩
  unfold oRepL at e
  split at e
  · rename_i a k ea
    obtain ⟨p, xs, rfl, h1, z1⟩ := lst_ok so dx ea
    cases dy
    split at e
    · rename_i hl
      cases e
      refine ⟨p, k, xs, rfl, rfl, h1, hl.1, hl.2.1, by rw [z1.length]; exact hl.2.2, fun n hn => newL so hn (z1.rep _) q⟩
    · cases e
  · cases e
def oRepT : Sto → D → D → Option D := fun _ x y => match tupOf x, y with
  | some a, .int k => if a ≠ [] ∧ 2 ≤ k ∧ k ≤ 1000 ∧ a.length ≤ 1000 then some (.tup (List.replicate k.toNat a).flatten) else none
  | _, _ => none
theorem od_repT : OpD X (binaryOp .Mult) oRepT := by
  refine ⟨_, op_repT, fun r t S H x y v u d Q so dx dy e q => ?_⟩
  unfold oRepT at e
  split at e
  · rename_i a k ea
    obtain ⟨p, xs, rfl, h1, z1⟩ := tup_ok dx ea
    cases dy
    split at e
    · rename_i hl
      cases e
      refine ⟨p, k, xs, rfl, rfl, sqT_of h1, fun e0 => ?_, hl.2.1, hl.2.2.1, by rw [z1.length]; exact hl.2.2.2, fun n hn => newT so hn (z1.rep _) q⟩
      subst e0
      cases z1
      exact hl.1 rfl
    · cases e
  · cases e
def oMul : Sto → D → D → Option D := orO oMulI (orO oRepL oRepT)
theorem od_mul : OpD X (binaryOp .Mult) oMul := od_mulI.or (od_repL.or od_repT)

/-! ### == -/
def oEqS (neg : Bool) : Sto → D → D → Option D := fun _ x y => match x, y with
  | .int i, .int j => some (.bl (neg ^^ decide (i = j)))
  | .str i, .str j => some (.bl (neg ^^ decide (i = j)))
  | .bl i, .bl j => some (.bl (neg ^^ decide (i = j)))
  | .non, .non => some (.bl (neg ^^ true))
  | .non, .int _ => some (.bl (neg ^^ false))
  | .int _, .non => some (.bl (neg ^^ false))
  | .str _, .int _ => some (.bl (neg ^^ false))
  | .int _, .str _ => some (.bl (neg ^^ false))
  | _, _ => none
mutual
def toPy : D → Option PyData
  | .non => some .none
  | .bl b => some (.bool b)
  | .int i => some (.int i)
  | .str x => some (.str x)
  | .tup ds => match toPyL ds with
    | some ps => some (.tuple ps)
    | none => none
  | .lst ds => match toPyL ds with
    | some ps => some (.list ps)
    | none => none
  | .fz ds => match toPyL ds with
    | some ps => some (.list ps)
    | none => none
  | .ref _ => none
  | .ty _ => none
def toPyL : List D → Option (List PyData)
  | [] => some []
  | d :: ds => match toPy d, toPyL ds with
    | some p, some ps => some (p :: ps)
    | _, _ => none
end
/-- a list's contents in the place of its cell -/
def topD (S : Sto) (d : D) : D := match lstOf S d with
  | some ds => .lst ds
  | none => d
mutual
theorem toPy_ok : ∀ (d : D) (v : V) (p : PyData), Den K H r t v d → toPy d = some p → Dp K H v p
  | .non, _, _, h, e => by cases h; cases e; exact .non
  | .bl b, _, _, h, e => by cases h; cases e; exact .bl b
  | .int i, _, _, h, e => by cases h; cases e; exact .int i
  | .str x, _, _, h, e => by cases h; cases e; exact .str x
  | .tup ds, _, _, h, e => by
    unfold toPy at e
    cases h with
    | tup h1 z =>
      split at e
      · rename_i ps eps
        cases e
        exact .tup (sqT_of h1) (toPyL_ok ds _ ps z eps)
      · cases e
  | .lst ds, _, _, h, e => by
    unfold toPy at e
    cases h with
    | lst h1 n m z =>
      split at e
      · rename_i ps eps
        cases e
        exact .lst (.inl (.inl h1)) (toPyL_ok ds _ ps z eps)
      · cases e
  | .fz ds, _, _, h, e => by
    unfold toPy at e
    cases h with
    | fz h1 z =>
      split at e
      · rename_i ps eps
        cases e
        exact .lst h1.sq (toPyL_ok ds _ ps z eps)
      · cases e
  | .ref _, _, _, _, e => by cases e
  | .ty _, _, _, _, e => by cases e
theorem toPyL_ok : ∀ (ds : List D) (vs : List V) (ps : List PyData), DenL K H r t vs ds → toPyL ds = some ps → DpAll K H vs ps
  | [], _, _, h, e => by cases h; cases e; exact .nil
  | d :: ds, _, _, h, e => by
    unfold toPyL at e
    cases h with
    | cons h1 h2 =>
      split at e
      · rename_i p ps e1 e2
        cases e
        exact .cons (toPy_ok d _ p h1 e1) (toPyL_ok ds _ ps h2 e2)
      · cases e
end
theorem topPy_ok {p : PyData} (so : SOk K mg H r t S) (dv : Den K H r t v d) (h : toPy (topD S d) = some p) : Dp K H v p := by
  unfold topD at h
  split at h
  · rename_i ds e
    obtain ⟨a, xs, rfl, h1, z⟩ := lst_ok so dv e
    unfold toPy at h
    split at h
    · rename_i ps eps
      cases h
      exact .lst (.inl (.inl h1)) (toPyL_ok ds _ ps z eps)
    · cases h
  · exact toPy_ok d v p dv h
def oEqD (neg : Bool) : Sto → D → D → Option D := fun S x y => match toPy (topD S x), toPy (topD S y) with
  | some p, some q => if (SeqAt.shaped p && SeqAt.shaped q) = true then some (.bl (neg ^^ PyData.eqv p q)) else none
  | _, _ => none
theorem eqS_ok {x y : D} {v u : V} {neg : Bool} (dx : Den K H r t v x) (dy : Den K H r t u y) (h : oEqS neg S x y = some d) : scal v u = true ∧ d = .bl (neg ^^ decide (v = u)) := by
  unfold oEqS at h
  split at h
  · cases dx; cases dy; cases h; exact ⟨rfl, by simp [V.int.injEq]⟩
  · cases dx; cases dy; cases h; exact ⟨rfl, by simp [V.str.injEq]⟩
  · cases dx; cases dy; cases h; exact ⟨rfl, by simp [V.bl.injEq]⟩
  · cases dx; cases dy; cases h; exact ⟨rfl, by simp⟩
  · cases dx; cases dy; cases h; exact ⟨rfl, by simp⟩
  · cases dx; cases dy; cases h; exact ⟨rfl, by simp⟩
  · cases dx; cases dy; cases h; exact ⟨rfl, by simp⟩
  · cases dx; cases dy; cases h; exact ⟨rfl, by simp⟩
  · cases h
theorem od_eqS : OpD X (compareOp .Eq) (oEqS false) := by
  refine ⟨_, op_eq, fun r t S H x y v u d Q so dx dy e q => ?_⟩
  obtain ⟨h1, h2⟩ := eqS_ok dx dy e
  subst h2
  exact ⟨h1, q _ _ (Ext.refl _ _) so (by rw [Bool.false_xor]; exact .bl _)⟩
theorem od_neS : OpD X (compareOp .NotEq) (oEqS true) := by
  refine ⟨_, op_ne, fun r t S H x y v u d Q so dx dy e q => ?_⟩
  obtain ⟨h1, h2⟩ := eqS_ok dx dy e
  subst h2
  exact ⟨h1, q _ _ (Ext.refl _ _) so (by rw [Bool.true_xor]; exact .bl _)⟩
theorem od_eqD (hu : X.A.units + 64 < cLine) : OpD X (compareOp .Eq) (oEqD false) := by
  refine ⟨_, op_eqD hu, fun r t S H x y v u d Q so dx dy e q => ?_⟩
  unfold oEqD at e
  split at e
  · rename_i p p2 e1 e2
    split at e
    · rename_i hs
      cases e
      rw [Bool.and_eq_true] at hs
      exact ⟨p, p2, topPy_ok so dx e1, topPy_ok so dy e2, hs.1, hs.2, q _ _ (Ext.refl _ _) so (by rw [Bool.false_xor]; exact .bl _)⟩
    · cases e
  · cases e
theorem od_neD (hu : X.A.units + 64 < cLine) : OpD X (compareOp .NotEq) (oEqD true) := by
  refine ⟨_, op_neD hu, fun r t S H x y v u d Q so dx dy e q => ?_⟩
  unfold oEqD at e
  split at e
  · rename_i p p2 e1 e2
    split at e
    · rename_i hs
      cases e
      rw [Bool.and_eq_true] at hs
      exact ⟨p, p2, topPy_ok so dx e1, topPy_ok so dy e2, hs.1, hs.2, q _ _ (Ext.refl _ _) so (by rw [Bool.true_xor]; exact .bl _)⟩
    · cases e
  · cases e
def oEq : Sto → D → D → Option D := orO (oEqS false) (oEqD false)
def oNe : Sto → D → D → Option D := orO (oEqS true) (oEqD true)
theorem od_eq (hu : X.A.units + 64 < cLine) : OpD X (compareOp .Eq) oEq := od_eqS.or (od_eqD hu)
theorem od_ne (hu : X.A.units + 64 < cLine) : OpD X (compareOp .NotEq) oNe := od_neS.or (od_neD hu)

/-! ### is -/
def isNonD : D → Bool
  | .non => true
  | _ => false
def oIsN (neg : Bool) : Sto → D → D → Option D := fun _ x y => match y with
  | .non => some (.bl (neg ^^ isNonD x))
  | _ => none
def oIsB (neg : Bool) : Sto → D → D → Option D := fun _ x y => match x, y with
  | .bl a, .bl b => some (.bl (neg ^^ decide (a = b)))
  | _, _ => none
theorem isNon_ok (dv : Den K H r t v d) : isNonD d = decide (v = .non) := by
  cases dv <;> simp [isNonD]
theorem od_isN : OpD X (compareOp .Is) (oIsN false) := by
  refine ⟨_, op_isN, fun r t S H x y v u d Q so dx dy e q => ?_⟩
  unfold oIsN at e
  split at e
  · cases dy
    cases e
    exact ⟨rfl, q _ _ (Ext.refl _ _) so (by rw [Bool.false_xor, isNon_ok dx]; exact .bl _)⟩
  · cases e
theorem od_notN : OpD X (compareOp .IsNot) (oIsN true) := by
  refine ⟨_, op_notN, fun r t S H x y v u d Q so dx dy e q => ?_⟩
  unfold oIsN at e
  split at e
  · cases dy
    cases e
    exact ⟨rfl, q _ _ (Ext.refl _ _) so (by rw [Bool.true_xor, isNon_ok dx]; exact .bl _)⟩
  · cases e
theorem od_isB : OpD X (compareOp .Is) (oIsB false) := by
  refine ⟨_, op_isBl, fun r t S H x y v u d Q so dx dy e q => ?_⟩
  unfold oIsB at e
  split at e
  · cases dx
    cases dy
    cases e
    exact ⟨_, _, rfl, rfl, q _ _ (Ext.refl _ _) so (by rw [Bool.false_xor]; exact .bl _)⟩
  · cases e
theorem od_notB : OpD X (compareOp .IsNot) (oIsB true) := by
  refine ⟨_, op_notBl, fun r t S H x y v u d Q so dx dy e q => ?_⟩
  unfold oIsB at e
  split at e
  · cases dx
    cases dy
    cases e
    exact ⟨_, _, rfl, rfl, q _ _ (Ext.refl _ _) so (by rw [Bool.true_xor]; exact .bl _)⟩
  · cases e
def oIs : Sto → D → D → Option D := orO (oIsB false) (oIsN false)
def oIsNot : Sto → D → D → Option D := orO (oIsB true) (oIsN true)
theorem od_is : OpD X (compareOp .Is) oIs := od_isB.or od_isN
theorem od_isNot : OpD X (compareOp .IsNot) oIsNot := od_notB.or od_notN

/-! ### in -/
def oInD (neg : Bool) : Sto → D → D → Option D := fun S x y => match toPy x, toPy (topD S y) with
  | some p, some (.list qs) => if (SeqAt.shaped p && SeqAt.shaped (.list qs)) = true then some (.bl (neg ^^ qs.any fun z => PyData.eqv z p)) else none
  | _, _ => none
theorem od_inD (hu : X.A.units + 65 < cLine) : OpD X (compareOp .In) (oInD false) := by
  refine ⟨_, op_inD hu, fun r t S H x y v u d Q so dx dy e q => ?_⟩
  unfold oInD at e
  split at e
  · rename_i p qs e1 e2
    split at e
    · rename_i hs
      cases e
      rw [Bool.and_eq_true] at hs
      exact ⟨p, qs, toPy_ok _ _ _ dx e1, topPy_ok so dy e2, hs.1, hs.2, q _ _ (Ext.refl _ _) so (by rw [Bool.false_xor]; exact .bl _)⟩
    · cases e
  · cases e
theorem od_notInD (hu : X.A.units + 65 < cLine) : OpD X (compareOp .NotIn) (oInD true) := by
  refine ⟨_, op_notInD hu, fun r t S H x y v u d Q so dx dy e q => ?_⟩
  unfold oInD at e
  split at e
  · rename_i p qs e1 e2
    split at e
    · rename_i hs
      cases e
      rw [Bool.and_eq_true] at hs
      exact ⟨p, qs, toPy_ok _ _ _ dx e1, topPy_ok so dy e2, hs.1, hs.2, q _ _ (Ext.refl _ _) so (by rw [Bool.true_xor]; exact .bl _)⟩
    · cases e
  · cases e

/-! ### - -/
structure UnD (X : Cx) (f : Value → Sem Value) (o : D → Option D) : Prop where
  ex : ∃ rr : V → Hp → VK → Prop, UnR X f rr ∧ ∀ r t S H x v d (Q : VK), SOk X.K X.mg H r t S → Den X.K H r t v x → o x = some d → (∀ w H', Ext r H r H' → SOk X.K X.mg H' r t S → Den X.K H' r t w d → Q w H') → rr v H Q
def oNeg : D → Option D
  | .int i => some (.int (-i))
  | _ => none
theorem ud_neg : UnD X (unaryOp .USub) oNeg := by
  refine ⟨_, un_neg, fun r t S H x v d Q so dx e q => ?_⟩
  cases dx with
  | int i => cases e; exact ⟨i, rfl, q _ _ (Ext.refl _ _) so (.int _)⟩
  | _ => cases e
variable {W : WX} {e a b : Expr} {es : List Expr} {f fa fb : DE} {pos : Pos} {σ : St}
def dUn (o : D → Option D) (fa : DE) : DE := fun env S => (fa env S).bind fun x S1 => lift (o x) S1
theorem de_un {op : UnaryOp} {o : D → Option D} (ho : UnD X (unaryOp op) o) (ha : PE X a (tE X W fa)) : PE X (.UnaryOp op a pos) (tE X W (dUn o fa)) := by
  obtain ⟨rr, h, k⟩ := ho
  refine PE.imp (pe_un h ha) fun σ H Q q => ?_
  exact tE_one q fun r t S env x v H' rel dx g => by
    obtain ⟨d, e, g⟩ := g.lift
    exact k r t S H' x v d Q rel.so dx e fun w H2 ex so dw => g H2 r ex so w dw

/-! ### x[i], x[i:j] -/
structure IxD (X : Cx) (o : Sto → D → D → Option D) : Prop where
  ex : ∃ rr : R2, IxR X rr ∧ ∀ r t S H x y v u d (Q : VK), SOk X.K X.mg H r t S → Den X.K H r t v x → Den X.K H r t u y → o S x y = some d →
    (∀ w H', Ext r H r H' → SOk X.K X.mg H' r t S → Den X.K H' r t w d → Q w H') → rr v u H Q
theorem IxD.or {o o' : Sto → D → D → Option D} (h : IxD X o) (h' : IxD X o') : IxD X (orO o o') := by
  obtain ⟨r1, h1, k1⟩ := h
  obtain ⟨r2, h2, k2⟩ := h'
  refine ⟨_, h1.or h2, fun r t S H x y v u d Q so dx dy e q => ?_⟩
  unfold orO at e
  split at e
  · rename_i d' e'
    cases e
    exact .inl (k1 r t S H x y v u _ Q so dx dy e' q)
  · exact .inr (k2 r t S H x y v u d Q so dx dy e q)
theorem de_ix {o : Sto → D → D → Option D} (ho : IxD X o) (ha : PE X a (tE X W fa)) (hb : PE X b (tE X W fb)) (hs : PlainIx b) : PE X (.Subscript a b pos) (tE X W (dBin o fa fb)) := by
  obtain ⟨rr, h, k⟩ := ho
  exact PE.imp (pe_ix h ha hb hs) fun σ H Q q => tE_op (f := binaryOp .Add) k q
theorem atI_den {xs : List V} {i : Int} (z : DenL K H r t xs ds) (h : atI ds i = some d) : ∃ v, atI xs i = some v ∧ Den K H r t v d := by
  unfold atI at h ⊢
  cases e : ixN ds.length i with
  | none => rw [e] at h; cases h
  | some j =>
    rw [e] at h
    rw [z.length, e]
    exact z.get h
def oIxL : Sto → D → D → Option D := fun S x y => match listOf S x, y with
  | some ds, .int i => atI ds i
  | _, _ => none
theorem xd_list : IxD X oIxL := by
  refine ⟨_, ix_list, fun r t S H x y v u d Q so dx dy e q => ?_⟩
  unfold oIxL at e
  split at e
  · rename_i ds i e1
    obtain ⟨a, xs, rfl, h1, z⟩ := list_ok so dx e1
    cases dy
    obtain ⟨w, h2, dw⟩ := atI_den z e
    exact ⟨a, xs, i, w, rfl, rfl, h1, h2, q _ _ (Ext.refl _ _) so dw⟩
  · cases e
def oIxT : Sto → D → D → Option D := fun _ x y => match tupOf x, y with
  | some ds, .int i => atI ds i
  | _, _ => none
theorem xd_tup : IxD X oIxT := by
  refine ⟨_, ix_tup, fun r t S H x y v u d Q so dx dy e q => ?_⟩
  unfold oIxT at e
  split at e
  · rename_i ds i e1
    obtain ⟨a, xs, rfl, h1, z⟩ := tup_ok dx e1
    cases dy
    obtain ⟨w, h2, dw⟩ := atI_den z e
    exact ⟨a, xs, i, w, rfl, rfl, sqT_of h1, h2, q _ _ (Ext.refl _ _) so dw⟩
  · cases e
def oIxS : Sto → D → D → Option D := fun _ x y => match x, y with
  | .str z, .int i => if z.length ≤ sizeLine then (atI z.cps.toList i).map fun c => .str ⟨#[c]⟩ else none
  | _, _ => none
theorem xd_str : IxD X oIxS := by
  refine ⟨_, ix_str, fun r t S H x y v u d Q so dx dy e q => ?_⟩
  unfold oIxS at e
  split at e
  · cases dx
    cases dy
    split at e
    · rename_i z i hl
      obtain ⟨c, h1, h2⟩ := Option.map_eq_some_iff.mp e
      subst h2
      exact ⟨z, i, c, rfl, rfl, hl, h1, q _ _ (Ext.refl _ _) so (.str _)⟩
    · cases e
  · cases e
def oIx : Sto → D → D → Option D := orO oIxL (orO oIxT oIxS)
theorem xd_ix : IxD X oIx := xd_list.or (xd_tup.or xd_str)
/-- a slice's ends -/
abbrev DO := Ev → Sto → Out (Option Int)
def oNo : DO := fun _ S => .ok none S
def asI : D → Option Int
  | .int i => some i
  | _ => none
def oSo (f : DE) : DO := fun env S => (f env S).bind fun d S1 => (lift (asI d) S1).bind fun i S2 => .ok (some i) S2
def tO (X : Cx) (W : WX) (f : DO) : TO := fun σ H Q => ∃ r t S env, Rel X.K X.mg H r t S env σ ∧ Good X.K X.mg t (EW W σ) r H (f env S) fun i _ _ H' => Q i H'
theorem do_no : PO X none (tO X W oNo) := ⟨fun pins s σ H Q I h => (po_none (X := X)).run pins s σ H Q I (by
  obtain ⟨r, t, S, env, rel, g⟩ := h
  exact g.here rel.so)⟩
theorem do_so (he : PE X e (tE X W f)) : PO X (some e) (tO X W (oSo f)) := ⟨fun pins s σ H Q I h => (po_some he).run pins s σ H Q I (by
  obtain ⟨r, t, S, env, rel, g⟩ := h
  refine ⟨r, t, S, env, rel, g.bind.mono fun x S1 r1 H1 ex so g1 v dv => ?_⟩
  obtain ⟨i, ei, g2⟩ := g1.bind.lift
  have g3 := (g2.here so).here so
  cases dv with
  | int j => cases ei; exact ⟨i, rfl, g3⟩
  | _ => cases ei)⟩
structure SlD (X : Cx) (o : Sto → D → Option Int → Option Int → Option D) : Prop where
  ex : ∃ rr : V → Option Int → Option Int → Hp → VK → Prop, SlR X rr ∧ ∀ r t S H x v l u d (Q : VK), SOk X.K X.mg H r t S → Den X.K H r t v x → o S x l u = some d →
    (∀ w H', Ext r H r H' → SOk X.K X.mg H' r t S → Den X.K H' r t w d → Q w H') → rr v l u H Q
def orS (o o' : Sto → D → Option Int → Option Int → Option D) : Sto → D → Option Int → Option Int → Option D := fun S x l u => match o S x l u with
  | some d => some d
  | none => o' S x l u
theorem SlD.or {o o' : Sto → D → Option Int → Option Int → Option D} (h : SlD X o) (h' : SlD X o') : SlD X (orS o o') := by
  obtain ⟨r1, h1, k1⟩ := h
  obtain ⟨r2, h2, k2⟩ := h'
  refine ⟨_, h1.or h2, fun r t S H x v l u d Q so dx e q => ?_⟩
  unfold orS at e
  split at e
  · rename_i d' e'
    cases e
    exact .inl (k1 r t S H x v l u _ Q so dx e' q)
  · exact .inr (k2 r t S H x v l u d Q so dx e q)
def cutD (xs : List D) (lo hi : Option Int) : List D := (xs.drop (HT.sIx xs.length 0 lo)).take (HT.sIx xs.length xs.length hi - HT.sIx xs.length 0 lo)
theorem cut_den {xs : List V} (z : DenL K H r t xs ds) (lo hi : Option Int) : DenL K H r t (cutV xs lo hi) (cutD ds lo hi) := by
  unfold cutV cutD
  rw [z.length]
  exact (z.drop _).take _
def oSlL : Sto → D → Option Int → Option Int → Option D := fun S x l u => match listOf S x with
  | some ds => some (.lst (cutD ds l u))
  | none => none
theorem sd_list : SlD X oSlL := by
  refine ⟨_, sl_list, fun r t S H x v l u d Q so dx e q => ?_⟩
  unfold oSlL at e
  split at e
  · rename_i ds e1
    cases e
    obtain ⟨a, xs, rfl, h1, z⟩ := list_ok so dx e1
    exact ⟨a, xs, rfl, h1, fun p hp => newL so hp (cut_den z l u) q⟩
  · cases e
def oSlT : Sto → D → Option Int → Option Int → Option D := fun _ x l u => match tupOf x with
  | some ds => some (.tup (cutD ds l u))
  | none => none
theorem cut_all {xs : List D} {lo hi : Option Int} (h : HT.sIx xs.length 0 lo = 0 ∧ HT.sIx xs.length xs.length hi = xs.length) : cutD xs lo hi = xs := by
  unfold cutD
  rw [h.1, h.2, List.drop_zero, Nat.sub_zero, List.take_length]
theorem sd_tup : SlD X oSlT := by
  refine ⟨_, sl_tupA, fun r t S H x v l u d Q so dx e q => ?_⟩
  unfold oSlT at e
  split at e
  · rename_i ds e1
    cases e
    obtain ⟨a, xs, rfl, h1, z⟩ := tup_ok dx e1
    refine ⟨a, xs, rfl, sqT_of h1, fun hw => ?_, fun _ p hp => newT so hp (cut_den z l u) q⟩
    rw [z.length] at hw
    refine q _ _ (Ext.refl _ _) so ?_
    rw [cut_all hw]
    exact .tup h1 z
  · cases e
def oSl : Sto → D → Option Int → Option Int → Option D := orS oSlL oSlT
theorem sd_sl : SlD X oSl := sd_list.or sd_tup
def dSl (o : Sto → D → Option Int → Option Int → Option D) (fe : DE) (fl fu : DO) : DE := fun env S => (fe env S).bind fun x S1 => (fl env S1).bind fun l S2 => (fu env S2).bind fun u S3 => lift (o S3 x l u) S3
theorem de_slice {o : Sto → D → Option Int → Option Int → Option D} {lo hi : Option Expr} {fl fu : DO} {p2 : Pos} (ho : SlD X o) (he : PE X e (tE X W f)) (hl : PO X lo (tO X W fl)) (hu : PO X hi (tO X W fu)) : PE X (.Subscript e (.Slice lo hi none p2) pos) (tE X W (dSl o f fl fu)) := by
  obtain ⟨rr, h, k⟩ := ho
  refine PE.imp (pe_slice h he hl hu) fun σ H Q q => ?_
  refine tE_one q fun r t S env x v H' rel dx g => ?_
  refine ⟨r, t, S, env, rel, g.bind.mono fun l S1 r1 H1 ex so g1 => ?_⟩
  have rel1 := rel.ext ex so
  have dx1 := Den.ext ex _ _ dx
  refine ⟨r1, t, S1, env, rel1, g1.bind.mono fun u S2 r2 H2 ex2 so2 g2 => ?_⟩
  obtain ⟨d, e, g3⟩ := g2.lift
  exact k r2 t S2 H2 x v l u d Q so2 (Den.ext ex2 _ _ dx1) e fun w H3 ex3 so3 dw => g3 H3 r2 ex3 so3 w dw

/-! ### built-in functions -/
def tyN (S : Sto) : D → Option String
  | .non => some "NoneType"
  | .bl _ => some "bool"
  | .int _ => some "int"
  | .str _ => some "str"
  | .tup _ => some "tuple"
  | .lst _ => some "list"
  | .fz _ => some "list"
  | .ref n => match S[n]? with
    | some (.lst _) => some "list"
    | some (.dK _) => some "dict"
    | some (.dT _) => some "dict"
    | _ => none
  | .ty _ => none
theorem ty_ok {T : String} (so : SOk K mg H r t S) (dv : Den K H r t v d) (h : tyN S d = some T) : TyX K H v (.type T) := by
  cases dv with
  | non => cases h; exact .base .non
  | bl b => cases h; exact .base (.bl b)
  | int b => cases h; exact .base (.int b)
  | str b => cases h; exact .base (.str b)
  | tup h1 z => cases h; exact .base (.tup h1)
  | lst h1 _ _ _ => cases h; exact .base (.lst h1)
  | fz h1 _ =>
    cases h
    rcases h1 with ⟨o, h1⟩ | ⟨o, its, n, hk, hc, _⟩
    · exact .base (.frz h1)
    · exact .kList hk hc
  | @ref a n hn =>
    obtain ⟨c, hc, ok⟩ := so.cell hn
    unfold tyN at h
    dsimp only at h
    rw [hc] at h
    cases c with
    | lst es => cases h; obtain ⟨xs, h1, _⟩ := ok; exact .base (.lst h1)
    | dK es => cases h; obtain ⟨xs, h1, _⟩ := ok; exact .base (.dK h1)
    | dT es => cases h; obtain ⟨xs, h1, _⟩ := ok; exact .base (.dT h1)
    | ins c fs => cases h
    | exc c => cases h
    | fK es => cases h
    | fT es => cases h
  | ty n => cases h
def oIsInst : Sto → List D → Option D := fun S ds => match ds with
  | [d, .ty T] => match tyN S d with
    | some a => (kitB a T).map .bl
    | none => none
  | _ => none
theorem cd_isinst : CallD X (.builtin "isinstance") oIsInst := by
  refine ⟨_, call_isi, fun r t S H ds vs d Q so dv e q => ?_⟩
  unfold oIsInst at e
  split at e
  · rename_i x T
    split at e
    · rename_i a ea
      obtain ⟨b, h1, h2⟩ := Option.map_eq_some_iff.mp e
      subst h2
      cases dv with
      | cons d1 d2 =>
        cases d2 with
        | cons d2 d3 =>
          cases d3
          cases d2
          exact ⟨_, _, _, _, b, rfl, .ty T, ty_ok so d1 ea, kit_ty h1, q _ _ (Ext.refl _ _) so (.bl b)⟩
    · cases e
  · cases e
def oLen : Sto → List D → Option D := fun S ds => match ds with
  | [.str x] => if x.length ≤ sizeLine then some (.int x.length) else none
  | [.tup xs] => some (.int xs.length)
  | [d] => (listOf S d).map fun xs => .int xs.length
  | _ => none
theorem cd_len : CallD X (.builtin "len") oLen := by
  refine ⟨_, call_len, fun r t S H ds vs d Q so dv e q => ?_⟩
  unfold oLen at e
  split at e
  · split at e
    · rename_i x hl
      cases e
      cases dv with
      | cons d1 d2 =>
        cases d2
        cases d1
        exact ⟨.str x, x.length, rfl, ⟨hl, rfl⟩, q _ _ (Ext.refl _ _) so (.int _)⟩
    · cases e
  · rename_i xs
    cases e
    cases dv with
    | cons d1 d2 =>
      cases d2
      cases d1 with
      | tup h1 z => exact ⟨_, _, rfl, .inr ⟨_, sqT_of h1, z.length.symm⟩, q _ _ (Ext.refl _ _) so (.int _)⟩
  · obtain ⟨xs, h1, h2⟩ := Option.map_eq_some_iff.mp e
    subst h2
    cases dv with
    | cons d1 d2 =>
      cases d2
      obtain ⟨a, ys, rfl, h3, z⟩ := list_ok so d1 h1
      exact ⟨_, _, rfl, .inl ⟨_, h3, z.length.symm⟩, q _ _ (Ext.refl _ _) so (.int _)⟩
  · cases e
def blsOf : List D → Option (List Bool)
  | [] => some []
  | .bl b :: r => (blsOf r).map (b :: ·)
  | _ :: _ => none
theorem bls_eq : ∀ {ds : List D} {bs : List Bool}, blsOf ds = some bs → ds = bs.map D.bl
  | [], _, h => by cases h; rfl
  | d :: r, bs, h => by
    cases d with
    | bl b =>
      obtain ⟨l, h1, h2⟩ := Option.map_eq_some_iff.mp (show (blsOf r).map (b :: ·) = some bs from h)
      subst h2
      rw [List.map_cons, bls_eq h1]
    | _ => cases h
def intsOf : List D → Option (List Int)
  | [] => some []
  | .int b :: r => (intsOf r).map (b :: ·)
  | _ :: _ => none
theorem ints_eq : ∀ {ds : List D} {bs : List Int}, intsOf ds = some bs → ds = bs.map D.int
  | [], _, h => by cases h; rfl
  | d :: r, bs, h => by
    cases d with
    | int b =>
      obtain ⟨l, h1, h2⟩ := Option.map_eq_some_iff.mp (show (intsOf r).map (b :: ·) = some bs from h)
      subst h2
      rw [List.map_cons, ints_eq h1]
    | _ => cases h
def oAll : Sto → List D → Option D := fun S ds => match ds with
  | [d] => ((listOf S d).bind blsOf).map fun bs => .bl (bs.all id)
  | _ => none
def oAny : Sto → List D → Option D := fun S ds => match ds with
  | [d] => ((listOf S d).bind blsOf).map fun bs => .bl (bs.any id)
  | _ => none
def oSumL : Sto → List D → Option D := fun S ds => match ds with
  | [d] => ((listOf S d).bind intsOf).map fun bs => .int bs.sum
  | _ => none
theorem cd_all (hc : X.calm = true) : CallD X (.builtin "all") oAll := by
  refine ⟨_, cr_all hc, fun r t S H ds vs d Q so dv e q => ?_⟩
  unfold oAll at e
  split at e
  · obtain ⟨bs, h1, h2⟩ := Option.map_eq_some_iff.mp e
    obtain ⟨es, h3, h4⟩ := Option.bind_eq_some_iff.mp h1
    subst h2
    cases dv with
    | cons d1 d2 =>
      cases d2
      obtain ⟨a, xs, rfl, h5, z⟩ := list_ok so d1 h3
      rw [bls_eq h4] at z
      rw [z.bls] at h5
      exact ⟨a, bs, rfl, h5, q _ _ (Ext.refl _ _) so (.bl _)⟩
  · cases e
theorem cd_any (hc : X.calm = true) : CallD X (.builtin "any") oAny := by
  refine ⟨_, cr_any hc, fun r t S H ds vs d Q so dv e q => ?_⟩
  unfold oAny at e
  split at e
  · obtain ⟨bs, h1, h2⟩ := Option.map_eq_some_iff.mp e
    obtain ⟨es, h3, h4⟩ := Option.bind_eq_some_iff.mp h1
    subst h2
    cases dv with
    | cons d1 d2 =>
      cases d2
      obtain ⟨a, xs, rfl, h5, z⟩ := list_ok so d1 h3
      rw [bls_eq h4] at z
      rw [z.bls] at h5
      exact ⟨a, bs, rfl, h5, q _ _ (Ext.refl _ _) so (.bl _)⟩
  · cases e
theorem cd_sumL (hc : X.calm = true) : CallD X (.builtin "sum") oSumL := by
  refine ⟨_, cr_sum hc, fun r t S H ds vs d Q so dv e q => ?_⟩
  unfold oSumL at e
  split at e
  · obtain ⟨bs, h1, h2⟩ := Option.map_eq_some_iff.mp e
    obtain ⟨es, h3, h4⟩ := Option.bind_eq_some_iff.mp h1
    subst h2
    cases dv with
    | cons d1 d2 =>
      cases d2
      obtain ⟨a, xs, rfl, h5, z⟩ := list_ok so d1 h3
      rw [ints_eq h4] at z
      rw [z.ints] at h5
      exact ⟨a, bs, rfl, h5, q _ _ (Ext.refl _ _) so (.int _)⟩
  · cases e
def oTuple : Sto → List D → Option D := fun S ds => match ds with
  | [.tup xs] => some (.tup xs)
  | [d] => (listOf S d).map .tup
  | _ => none
theorem cd_tuple : CallD X (.type "tuple") oTuple := by
  refine ⟨_, call_tuple_of, fun r t S H ds vs d Q so dv e q => ?_⟩
  unfold oTuple at e
  split at e
  · cases e
    cases dv with
    | cons d1 d2 =>
      cases d2
      cases d1 with
      | tup h1 z => exact ⟨_, _, rfl, .inr ⟨sqT_of h1, q _ _ (Ext.refl _ _) so (.tup h1 z)⟩⟩
  · obtain ⟨xs, h1, h2⟩ := Option.map_eq_some_iff.mp e
    subst h2
    cases dv with
    | cons d1 d2 =>
      cases d2
      obtain ⟨a, ys, rfl, h3, z⟩ := list_ok so d1 h1
      exact ⟨_, _, rfl, .inl ⟨h3, fun l hl => newT so hl z q⟩⟩
  · cases e
def oListC : Sto → List D → Option D := fun S ds => match ds with
  | [.tup xs] => some (.lst xs)
  | [d] => (listOf S d).map .lst
  | _ => none
theorem cd_list : CallD X (.type "list") oListC := by
  refine ⟨_, call_list_of, fun r t S H ds vs d Q so dv e q => ?_⟩
  unfold oListC at e
  split at e
  · cases e
    cases dv with
    | cons d1 d2 =>
      cases d2
      cases d1 with
      | tup h1 z => exact ⟨_, _, rfl, .inr (sqT_of h1), fun l hl => newL so hl z q⟩
  · obtain ⟨xs, h1, h2⟩ := Option.map_eq_some_iff.mp e
    subst h2
    cases dv with
    | cons d1 d2 =>
      cases d2
      obtain ⟨a, ys, rfl, h3, z⟩ := list_ok so d1 h1
      exact ⟨_, _, rfl, .inl h3, fun l hl => newL so hl z q⟩
  · cases e
def oIntC : Sto → List D → Option D := fun _ ds => match ds with
  | [.int i] => some (.int i)
  | [.bl k] => some (.int (if k then 1 else 0))
  | _ => none
theorem cd_int : CallD X (.type "int") oIntC := by
  refine ⟨_, call_int1, fun r t S H ds vs d Q so dv e q => ?_⟩
  unfold oIntC at e
  split at e
  · cases e
    cases dv with
    | cons d1 d2 => cases d2; cases d1; exact .inl ⟨_, rfl, q _ _ (Ext.refl _ _) so (.int _)⟩
  · cases e
    cases dv with
    | cons d1 d2 => cases d2; cases d1; exact .inr ⟨_, rfl, q _ _ (Ext.refl _ _) so (.int _)⟩
  · cases e
def oStrC : Sto → List D → Option D := fun _ ds => match ds with
  | [.int i] => if i.natAbs < 2 ^ 1919 then some (.str (toString i)) else none
  | _ => none
theorem cd_str : CallD X (.type "str") oStrC := by
  refine ⟨_, call_str_int, fun r t S H ds vs d Q so dv e q => ?_⟩
  unfold oStrC at e
  split at e
  · split at e
    · rename_i i hi
      cases e
      cases dv with
      | cons d1 d2 =>
        cases d2
        cases d1
        refine ⟨_, rfl, ?_, q _ _ (Ext.refl _ _) so (.str _)⟩
        exact Nat.lt_of_lt_of_le (PySem.Flt.log2_lt_of (by decide) hi) (by decide)
    · cases e
  · cases e
end
end DL
end L2

set_option Elab.async false
set_option linter.all false
set_option maxRecDepth 100000
namespace L2
namespace DL
open PySem PySem.Spec PyProof.Rows

/-! ### what is walked -/
abbrev DI := Ev → Sto → Out (List D)
/-- J walks the items ds as long as the tokens tok are what they are -/
def Walk (X : Cx) (J : It) (tok : List (V × D)) (ds : List D) : Prop := ∀ (i : Nat) (r t : List Addr) (H : Hp) (S : Sto), SOk X.K X.mg H r t S → (∀ p ∈ tok, Den X.K H r t p.1 p.2) →
  (i = ds.length → J.stop i H) ∧ ∀ d, ds[i]? = some d → J.go i H ∧ ∀ x H', J.yld i H x H' → Ext r H r H' ∧ SOk X.K X.mg H' r t S ∧ Den X.K H' r t x d
def tI (X : Cx) (W : WX) (g : DI) : TI := fun σ H R => ∃ r t S env, Rel X.K X.mg H r t S env σ ∧ Good X.K X.mg t (EW W σ) r H (g env S) fun ds _ r' H' => ∀ J tok, Walk X J tok ds → (∀ p ∈ tok, Den X.K H' r' t p.1 p.2) → R J H'
theorem PI.imp {X : Cx} {tg e : Expr} {w w' : TI} (h : PI X tg e w) (k : ∀ σ H R, w' σ H R → w σ H R) : PI X tg e w' := ⟨fun pins s σ H R I q => h.run pins s σ H R I (k σ H R q)⟩
theorem PI.or {X : Cx} {tg e : Expr} {w w' : TI} (h : PI X tg e w) (h' : PI X tg e w') : PI X tg e (fun σ H R => w σ H R ∨ w' σ H R) :=
  ⟨fun pins s σ H R I q => q.elim (h.run pins s σ H R I) (h'.run pins s σ H R I)⟩
section
variable {X : Cx} {W : WX} {tg e : Expr} {f : DE}
def itemsOf : D → Option (List D)
  | .tup ds => some ds
  | .lst ds => some ds
  | .fz ds => some ds
  | _ => none
def signs (x : Str) : List D := x.cps.toList.map fun c => D.str ⟨#[c]⟩
def seqItems : D → Option (List D)
  | .str x => some (signs x)
  | d => itemsOf d
def iSeq (f : DE) : DI := fun env S => (f env S).bind fun d S1 => lift (seqItems d) S1
theorem walk_str {x : Str} : Walk X (Its x) [] (signs x) := by
  intro i r t H S so _
  refine ⟨fun e => by rw [e]; unfold signs; rw [List.length_map, Array.length_toList]; exact Nat.le_refl _, fun d hd => ?_⟩
  unfold signs at hd
  rw [List.getElem?_map] at hd
  obtain ⟨c, h1, h2⟩ := Option.map_eq_some_iff.mp hd
  rw [Array.getElem?_toList] at h1
  subst h2
  refine ⟨(Array.getElem?_eq_some_iff.mp h1).1, fun y H' yl => ?_⟩
  obtain ⟨e, c', h3, ev⟩ := yl
  subst e ev
  rw [h1] at h3
  cases h3
  exact ⟨Ext.refl _ _, so, .str _⟩
theorem walk_tup {a : Addr} {ds : List D} : Walk X (Itt X.K a) [(.ref a, .tup ds)] ds := by
  intro i r t H S so tok
  have h := tok _ List.mem_cons_self
  cases h with
  | @tup a xs ds h0 z =>
    have h1 : SqT X.K H a xs := sqT_of h0
    refine ⟨fun e => ⟨xs, h1, by rw [z.length, e]; exact Nat.le_refl _⟩, fun d hd => ?_⟩
    obtain ⟨v, hv, dv⟩ := z.get hd
    refine ⟨⟨xs, v, h1, hv⟩, fun x H' y => ?_⟩
    obtain ⟨e, y⟩ := y
    subst e
    have hx := y xs h1
    rw [hv] at hx
    have ex := Option.some.inj hx
    subst ex
    exact ⟨Ext.refl _ _, so, dv⟩
theorem walk_lst {a : Addr} {d0 : D} {ds : List D} (hd0 : d0 = .lst ds ∨ d0 = .fz ds) : Walk X (Itl X.K a) [(.ref a, d0)] ds := by
  intro i r t H S so tok
  have h := tok _ List.mem_cons_self
  obtain ⟨xs, h1, z⟩ : ∃ xs, SqL X.K H a xs ∧ DenL X.K H r t xs ds := by
    rcases hd0 with e | e
    · subst e
      cases h with
      | lst h1 n m z => exact ⟨_, .inl (.inl h1), z⟩
    · subst e
      cases h with
      | fz h1 z => exact ⟨_, h1.sq, z⟩
  refine ⟨fun e => ⟨xs, h1, by rw [z.length, e]; exact Nat.le_refl _⟩, fun d hd => ?_⟩
  obtain ⟨v, hv, dv⟩ := z.get hd
  refine ⟨⟨xs, v, h1, hv⟩, fun x H' y => ?_⟩
  obtain ⟨e, y⟩ := y
  subst e
  have hx := y xs h1
  rw [hv] at hx
  have ex := Option.some.inj hx
  subst ex
  exact ⟨Ext.refl _ _, so, dv⟩
theorem di_seq (he : PE X e (tE X W f)) : PI X tg e (tI X W (iSeq f)) := by
  refine PI.imp (PI.or (pi_str he) (PI.or (pi_tup he) (pi_list he))) fun σ H R q => ?_
  obtain ⟨r, t, S, env, rel, g⟩ := q
  unfold iSeq at g
  cases h : f env S with
  | bad => rw [h] at g; exact (show False from g).elim
  | exc c S1 =>
    rw [h, Out.bind_exc] at g
    refine .inl ⟨r, t, S, env, rel, ?_⟩
    rw [h]
    exact g
  | ok d S1 =>
    rw [h, Out.bind_ok] at g
    obtain ⟨ds, e1, g1⟩ := g.lift
    cases d with
    | str x =>
      cases e1
      refine .inl ⟨r, t, S, env, rel, ?_⟩
      rw [h]
      intro H1 r1 ex so v dv
      cases dv
      exact ⟨x, rfl, g1 H1 r1 ex so _ _ walk_str (fun p hp => by cases hp)⟩
    | tup es =>
      cases e1
      refine .inr (.inl ⟨r, t, S, env, rel, ?_⟩)
      rw [h]
      intro H1 r1 ex so v dv
      cases dv with
      | tup h1 z => exact ⟨_, rfl, ⟨_, sqT_of h1⟩, g1 H1 r1 ex so _ _ walk_tup (by intro p hp; have ep := List.mem_singleton.mp hp; subst ep; exact .tup h1 z)⟩
    | lst es =>
      cases e1
      refine .inr (.inr ⟨r, t, S, env, rel, ?_⟩)
      rw [h]
      intro H1 r1 ex so v dv
      cases dv with
      | lst h1 n m z => exact ⟨_, rfl, ⟨_, .inl (.inl h1)⟩, g1 H1 r1 ex so _ _ (walk_lst (.inl rfl)) (by intro p hp; have ep := List.mem_singleton.mp hp; subst ep; exact .lst h1 n m z)⟩
    | fz es =>
      cases e1
      refine .inr (.inr ⟨r, t, S, env, rel, ?_⟩)
      rw [h]
      intro H1 r1 ex so v dv
      cases dv with
      | fz h1 z => exact ⟨_, rfl, ⟨_, h1.sq⟩, g1 H1 r1 ex so _ _ (walk_lst (.inr rfl)) (by intro p hp; have ep := List.mem_singleton.mp hp; subst ep; exact .fz h1 z)⟩
    | _ => cases e1
def rngL (lo : Int) (n : Nat) : List D := (List.range n).map fun k : Nat => D.int (lo + (k : Int))
theorem rng_get {lo : Int} {n i : Nat} {d : D} (h : (rngL lo n)[i]? = some d) : i < n ∧ d = .int (lo + (i : Int)) := by
  unfold rngL at h
  rw [List.getElem?_map] at h
  obtain ⟨j, h1, h2⟩ := Option.map_eq_some_iff.mp h
  obtain ⟨h3, h4⟩ := List.getElem?_eq_some_iff.mp h1
  rw [List.length_range] at h3
  rw [List.getElem_range] at h4
  subst h4
  exact ⟨h3, h2.symm⟩
theorem rng_len (lo : Int) (n : Nat) : (rngL lo n).length = n := by unfold rngL; rw [List.length_map, List.length_range]
theorem walk_rng {lo : Int} {n : Nat} : Walk X (Itr lo n) [] (rngL lo n) := by
  intro i r t H S so _
  refine ⟨fun e => by rw [e, rng_len]; exact Nat.le_refl _, fun d hd => ?_⟩
  obtain ⟨h1, h2⟩ := rng_get hd
  subst h2
  refine ⟨h1, fun x H' y => ?_⟩
  obtain ⟨e, y⟩ := y
  subst e y
  exact ⟨Ext.refl _ _, so, .int _⟩
def in62 (j : Int) : Bool := decide (-(2 ^ 62) ≤ j) && decide (j < 2 ^ 62)
def rng1 : List D → Option (List D)
  | [.int j] => if in62 j = true then some (rngL 0 j.toNat) else none
  | _ => none
def rng2 : List D → Option (List D)
  | [.int i, .int j] => if (in62 i && in62 j) = true then some (rngL i (j - i).toNat) else none
  | _ => none
theorem in62_ok {j : Int} (h : in62 j = true) : -(2 ^ 62) ≤ j ∧ j < 2 ^ 62 := by
  unfold in62 at h
  rw [Bool.and_eq_true, decide_eq_true_eq, decide_eq_true_eq] at h
  exact h
def iRange1 (fs : DA) : DI := fun env S => (fs env S).bind fun ds S1 => lift (rng1 ds) S1
def iRange2 (fs : DA) : DI := fun env S => (fs env S).bind fun ds S1 => lift (rng2 ds) S1
theorem di_range1 {a : Expr} {fs : DA} {p pos : Pos} (hg : Gl X "range") (hm : X.mg "range" = none) (ha : PA X [a] (tA X W fs)) (hs : starEach [a] X.env = [(false, eval a X.env)] := by rfl) : PI X tg (.Call (.Name "range" p) [a] [] pos) (tI X W (iRange1 fs)) := by
  refine PI.imp (pi_range1 hg hm ha hs) fun σ H R q => ?_
  obtain ⟨r, t, S, env, rel, g⟩ := q
  refine ⟨r, t, S, env, rel, g.bind.mono fun ds S1 r1 H1 ex so g1 vs dvs => ?_⟩
  obtain ⟨es, e1, g2⟩ := g1.lift
  unfold rng1 at e1
  split at e1
  · split at e1
    · rename_i j hj
      cases e1
      obtain ⟨h1, h2⟩ := in62_ok hj
      cases dvs with
      | cons d1 d2 =>
        cases d2
        cases d1
        exact ⟨j, rfl, h1, h2, g2.here so _ [] walk_rng (fun p hp => absurd hp (by simp))⟩
    · cases e1
  · cases e1
theorem di_range2 {a b : Expr} {fs : DA} {p pos : Pos} (hg : Gl X "range") (hm : X.mg "range" = none) (ha : PA X [a, b] (tA X W fs)) (hs : starEach [a, b] X.env = [(false, eval a X.env), (false, eval b X.env)] := by rfl) (hs2 : starEach [b] X.env = [(false, eval b X.env)] := by rfl) :
    PI X tg (.Call (.Name "range" p) [a, b] [] pos) (tI X W (iRange2 fs)) := by
  refine PI.imp (pi_range2 hg hm ha hs hs2) fun σ H R q => ?_
  obtain ⟨r, t, S, env, rel, g⟩ := q
  refine ⟨r, t, S, env, rel, g.bind.mono fun ds S1 r1 H1 ex so g1 vs dvs => ?_⟩
  obtain ⟨es, e1, g2⟩ := g1.lift
  unfold rng2 at e1
  split at e1
  · split at e1
    · rename_i i j hj
      cases e1
      rw [Bool.and_eq_true] at hj
      obtain ⟨h1, h2⟩ := in62_ok hj.1
      obtain ⟨h3, h4⟩ := in62_ok hj.2
      cases dvs with
      | cons d1 d2 =>
        cases d2 with
        | cons d2 d3 =>
          cases d3
          cases d1
          cases d2
          exact ⟨i, j, rfl, ⟨h1, h2, h3, h4⟩, g2.here so _ [] walk_rng (fun p hp => absurd hp (by simp))⟩
    · cases e1
  · cases e1
end

/-! ### targets -/
abbrev DG := Ev → D → Option Ev
/-- over every context with this written part -/
def Off (own : List Nat) (σ σ' : St) : Prop := σ'.length = σ.length ∧ ∀ j, j ∉ own → σ'[j]? = σ[j]?
def tG (K : PySem.W.Frag) (mg : Str → Option Value) (own : List Nat) (g : DG) : TG := fun v σ H Q => ∃ r t S env d, Rel K mg H r t S env σ ∧ Den K H r t v d ∧ ∃ env', g env d = some env' ∧ ∀ σ', Rel K mg H r t S env' σ' → Off own σ σ' → Q σ' H
theorem PG.imp {X : Cx} {e : Expr} {u u' : TG} (h : PG X e u) (k : ∀ v σ H Q, u' v σ H Q → u v σ H Q) : PG X e u' := ⟨fun pins s σ H v w Q I rv q => h.run pins s σ H v w Q I rv (k v σ H Q q)⟩
section
variable {X : Cx} {pos : Pos}
def gN (i : Nat) : DG := fun env d => some (env.set i (some d))
theorem dg_name (i : Nat) {x : Str} (hN : X.N.Nodup) (hi : X.N[i]? = some x := by rfl) (hx : Loc X.env.scope x := by first | exact .inl rfl | exact .inr rfl) (hf : X.fn x = true ∨ X.env.scope.names.lookup x = some .local := by first | exact .inl rfl | exact .inr rfl) : PG X (.Name x pos) (tG X.K X.mg [i] (gN i)) := by
  refine PG.imp (pg_name hN hi hx hf) fun v σ H Q q => ?_
  obtain ⟨r, t, S, env, d, rel, dv, env', e, q⟩ := q
  cases e
  exact q _ (rel.set i dv) ⟨List.length_set, fun j hj => List.getElem?_set_ne (fun e => hj (by rw [e]; exact List.mem_singleton.mpr rfl))⟩
/-- several targets -/
abbrev DGs := Ev → List D → Option Ev
def tGs (K : PySem.W.Frag) (mg : Str → Option Value) (own : List Nat) (g : DGs) : TGs := fun vs σ H Q => ∃ r t S env ds, Rel K mg H r t S env σ ∧ DenL K H r t vs ds ∧ ∃ env', g env ds = some env' ∧ ∀ σ', Rel K mg H r t S env' σ' → Off own σ σ' → Q σ' H
theorem Off.refl (σ : St) : Off [] σ σ := ⟨rfl, fun _ _ => rfl⟩
theorem Off.trans {a b : List Nat} {σ σ1 σ2 : St} (h : Off a σ σ1) (k : Off b σ1 σ2) : Off (a ++ b) σ σ2 :=
  ⟨k.1.trans h.1, fun j hj => (k.2 j fun z => hj (List.mem_append_right _ z)).trans (h.2 j fun z => hj (List.mem_append_left _ z))⟩
theorem PGs.imp {X : Cx} {e : List Expr} {u u' : TGs} (h : PGs X e u) (k : ∀ v σ H Q, u' v σ H Q → u v σ H Q) : PGs X e u' := ⟨fun pins s σ H v w Q I rv q => h.run pins s σ H v w Q I rv (k v σ H Q q)⟩
def gsNil : DGs := fun env ds => match ds with
  | [] => some env
  | _ => none
def gsCons (g : DG) (gs : DGs) : DGs := fun env ds => match ds with
  | d :: r => (g env d).bind fun env' => gs env' r
  | [] => none
theorem dgs_nil : PGs X [] (tGs X.K X.mg [] gsNil) := by
  refine PGs.imp pgs_nil fun v σ H Q q => ?_
  obtain ⟨r, t, S, env, ds, rel, dv, env', e, q⟩ := q
  unfold gsNil at e
  split at e
  · cases e
    cases dv
    exact ⟨rfl, q _ rel (Off.refl _)⟩
  · cases e
theorem dgs_cons {a : Expr} {es : List Expr} {g : DG} {gs : DGs} {o1 o2 : List Nat} (h1 : PG X a (tG X.K X.mg o1 g)) (h2 : PGs X es (tGs X.K X.mg o2 gs)) (hs : (assignEach (a :: es) X.env).map (·.2) = assign a X.env :: (assignEach es X.env).map (·.2) := by rfl) : PGs X (a :: es) (tGs X.K X.mg (o1 ++ o2) (gsCons g gs)) := by
  refine PGs.imp (pgs_cons h1 h2 hs) fun v σ H Q q => ?_
  obtain ⟨r, t, S, env, ds, rel, dv, env', e, q⟩ := q
  unfold gsCons at e
  split at e
  · rename_i d rd
    obtain ⟨env1, e1, e2⟩ := Option.bind_eq_some_iff.mp e
    cases dv with
    | cons d1 d2 => exact ⟨_, _, rfl, r, t, S, env, d, rel, d1, env1, e1, fun σ1 rel1 off1 => ⟨r, t, S, env1, rd, rel1, d2, env', e2, fun σ2 rel2 off2 => q σ2 rel2 (off1.trans off2)⟩⟩
  · cases e
def gTupD (n : Nat) (gs : DGs) : DG := fun env d => match d with
  | .tup ds => if ds.length = n then gs env ds else none
  | _ => none
theorem dg_tup {es : List Expr} {k : Nat} {gs : DGs} {n : Nat} {own : List Nat} (hc : X.calm = true) (h : PGs X es (tGs X.K X.mg own gs)) (hn : (assignEach es X.env).length = n := by rfl) (hst : (assignEach es X.env).findIdx? (·.1) = none := by rfl) : PG X (.Tuple es k pos) (tG X.K X.mg own (gTupD n gs)) := by
  refine PG.imp (pg_tup hc h hn hst) fun v σ H Q q => ?_
  obtain ⟨r, t, S, env, d, rel, dv, env', e, q⟩ := q
  unfold gTupD at e
  split at e
  · rename_i ds
    split at e
    · rename_i hl
      cases dv with
      | tup h1 z => exact ⟨_, _, rfl, sqT_of h1, z.length.trans hl, r, t, S, env, ds, rel, z, env', e, q⟩
    · cases e
  · cases e
end

/-! ### list comprehensions -/
abbrev W0 : WX := fun _ _ _ _ => False
def noexc {A : Type} : Out A → Out A
  | .exc _ _ => .bad
  | m => m
def bYes : DB := fun _ S => .ok true S
def wipeE (env : Ev) : List Nat → Ev
  | [] => env
  | v :: vs => (wipeE env vs).set v none
def compGo (g : DG) (env : Ev) (tt : DB) (te : DE) : List D → List D → Sto → Out (List D)
  | [], acc, S => .ok acc S
  | d :: ds, acc, S => match g env d with
    | none => .bad
    | some env' => (noexc (tt env' S)).bind fun k S1 => if k = true then (noexc (te env' S1)).bind fun y S2 => if acc.length < sizeLine then compGo g env tt te ds (acc ++ [y]) S2 else .bad
      else compGo g env tt te ds acc S1
def dComp (it : DI) (g : DG) (vs : List Nat) (tt : DB) (te : DE) : DE := fun env S => (it env S).bind fun ds S1 => (compGo g (wipeE env vs) tt te ds [] S1).bind fun acc S2 => .ok (.lst acc) S2
/-- the base of a loop: what a part comes to, whatever the state it is asked at -/
theorem Good.split {K : PySem.W.Frag} {mg : Str → Option Value} {t t' : List Addr} {E E' : Addr → Hp → Prop} {r r' : List Addr} {H H' : Hp} {A B : Type} {m : Out A} {k : A → Sto → Out B} {R : B → Sto → List Addr → Hp → Prop}
    (g : Good K mg t E r H ((noexc m).bind k) R) : Good K mg t' E' r' H' m fun a S _ _ => Good K mg t E r H (k a S) R := by
  cases m with
  | ok a S => exact fun _ _ _ _ => g
  | exc c S => exact (show False from g).elim
  | bad => exact (show False from g).elim
section
variable {K : PySem.W.Frag} {mg : Str → Option Value} {H : Hp} {r t : List Addr} {S : Sto} {env : Ev} {σ : St}
theorem Rel.wipes (R : Rel K mg H r t S env σ) : ∀ vs : List Nat, Rel K mg H r t S (wipeE env vs) (L2.wipe σ vs)
  | [] => R
  | v :: vs => (Rel.wipes R vs).wipe v
theorem SOk.hide {p : Addr} {o : HO} (so : SOk K mg H r t S) (hp : H p = none) : SOk K mg (upd H p o) r (p :: t) S := by
  have nn := notinNew so hp
  refine ⟨so.len, so.nd, fun n a c h1 h2 => ?_, fun a ha => ?_⟩
  · have ok := so.ok n a c h1 h2
    obtain ⟨u, e, _⟩ := ok.there
    have na : a ≠ p := ne_of_none e hp
    cases c with
    | lst ds => obtain ⟨xs, h3, h4⟩ := ok; exact ⟨xs, by rw [upd_ne na]; exact h3, DenL.hide hp _ _ h4⟩
    | dK ds => obtain ⟨xs, h3, h4⟩ := ok; exact ⟨xs, by rw [upd_ne na]; exact h3, ⟨h4.1, DenL.hide hp _ _ h4.2⟩⟩
    | dT ds => obtain ⟨xs, h3, h4⟩ := ok; exact ⟨xs, by rw [upd_ne na]; exact h3, ⟨h4.1, DenL.hide hp _ _ h4.2⟩⟩
    | ins c fs => obtain ⟨C, dx, ps, h3, h4, h5, h6⟩ := ok; exact ⟨C, dx, ps, by rw [upd_ne na]; exact h3, by rw [upd_ne (ne_of_none h4 hp)]; exact h4, h5, ⟨h6.1, DenL.hide hp _ _ h6.2⟩⟩
    | exc c => obtain ⟨C, h3, h4⟩ := ok; exact ⟨C, h3, by rw [upd_ne na]; exact h4⟩
    | fK ds => obtain ⟨o', xs, h3, h4⟩ := ok; exact ⟨o', xs, by rw [upd_ne na]; exact h3, ⟨h4.1, DenL.hide hp _ _ h4.2⟩⟩
    | fT ds => obtain ⟨o', xs, h3, h4⟩ := ok; exact ⟨o', xs, by rw [upd_ne na]; exact h3, ⟨h4.1, DenL.hide hp _ _ h4.2⟩⟩
  · rcases List.mem_cons.mp ha with e | e
    · subst e
      exact ⟨by rw [upd_same]; exact (fun z => nomatch z), nn.1⟩
    · exact ⟨(Ext.new (r := r) hp).there a (so.hid a e).1, (so.hid a e).2⟩
theorem Rel.hide {p : Addr} {o : HO} (R : Rel K mg H r t S env σ) (hp : H p = none) : Rel K mg (upd H p o) r (p :: t) S env σ :=
  ⟨R.so.hide hp, R.len, fun i d h => let ⟨v, h1, h2⟩ := R.en i d h; ⟨v, h1, Den.hide hp d v h2⟩⟩
theorem SOk.over {p : Addr} {xs : List V} {o : HO} (so : SOk K mg H r t S) (hm : p ∈ t) (hp : H p = some (.lst xs)) : SOk K mg (upd H p o) r t S := by
  have hT : ∀ ys, H p ≠ some (.tup ys) := fun ys e => by rw [hp] at e; cases e
  have hF : ∀ ob u, H p ≠ some (.frz ob u) := fun ob u e => by rw [hp] at e; cases e
  have hO : ∀ a, H p ≠ some (.own a) := fun a e => by rw [hp] at e; cases e
  refine ⟨so.len, so.nd, fun n a c h1 h2 => ?_, fun a ha => ⟨?_, (so.hid a ha).2⟩⟩
  · have ok := so.ok n a c h1 h2
    have na : a ≠ p := fun e => by subst e; exact (so.hid _ hm).2 (List.mem_of_getElem? h1)
    cases c with
    | lst ds => obtain ⟨xs, h3, h4⟩ := ok; exact ⟨xs, by rw [upd_ne na]; exact h3, DenL.over hm hT hF _ _ h4⟩
    | dK ds => obtain ⟨xs, h3, h4⟩ := ok; exact ⟨xs, by rw [upd_ne na]; exact h3, ⟨h4.1, DenL.over hm hT hF _ _ h4.2⟩⟩
    | dT ds => obtain ⟨xs, h3, h4⟩ := ok; exact ⟨xs, by rw [upd_ne na]; exact h3, ⟨h4.1, DenL.over hm hT hF _ _ h4.2⟩⟩
    | ins c fs => obtain ⟨C, dx, ps, h3, h4, h5, h6⟩ := ok; exact ⟨C, dx, ps, by rw [upd_ne na]; exact h3, by rw [upd_ne (fun e => by subst e; exact hO _ h4)]; exact h4, h5, ⟨h6.1, DenL.over hm hT hF _ _ h6.2⟩⟩
    | exc c => obtain ⟨C, h3, h4⟩ := ok; exact ⟨C, h3, by rw [upd_ne na]; exact h4⟩
    | fK ds => obtain ⟨o', xs, h3, h4⟩ := ok; exact ⟨o', xs, by rw [upd_ne na]; exact h3, ⟨h4.1, DenL.over hm hT hF _ _ h4.2⟩⟩
    | fT ds => obtain ⟨o', xs, h3, h4⟩ := ok; exact ⟨o', xs, by rw [upd_ne na]; exact h3, ⟨h4.1, DenL.over hm hT hF _ _ h4.2⟩⟩
  · by_cases e : a = p
    · subst e; rw [upd_same]; exact fun z => nomatch z
    · rw [upd_ne e]; exact (so.hid a ha).1
theorem Rel.over {p : Addr} {xs : List V} {o : HO} (R : Rel K mg H r t S env σ) (hm : p ∈ t) (hp : H p = some (.lst xs)) : Rel K mg (upd H p o) r t S env σ := by
  have hT : ∀ ys, H p ≠ some (.tup ys) := fun ys e => by rw [hp] at e; cases e
  have hF : ∀ ob u, H p ≠ some (.frz ob u) := fun ob u e => by rw [hp] at e; cases e
  exact ⟨R.so.over hm hp, R.len, fun i d h => let ⟨v, h1, h2⟩ := R.en i d h; ⟨v, h1, Den.over hm hT hF d v h2⟩⟩
theorem SOk.less {u : List Addr} (so : SOk K mg H r t S) (hs : ∀ a ∈ u, a ∈ t) : SOk K mg H r u S := by
  refine ⟨so.len, so.nd, fun n a c h1 h2 => ?_, fun a ha => so.hid a (hs a ha)⟩
  have ok := so.ok n a c h1 h2
  cases c with
  | lst ds => obtain ⟨xs, h3, h4⟩ := ok; exact ⟨xs, h3, DenL.less hs _ _ h4⟩
  | dK ds => obtain ⟨xs, h3, h4⟩ := ok; exact ⟨xs, h3, ⟨h4.1, DenL.less hs _ _ h4.2⟩⟩
  | dT ds => obtain ⟨xs, h3, h4⟩ := ok; exact ⟨xs, h3, ⟨h4.1, DenL.less hs _ _ h4.2⟩⟩
  | ins c fs => obtain ⟨C, dx, ps, h3, h4, h5, h6⟩ := ok; exact ⟨C, dx, ps, h3, h4, h5, ⟨h6.1, DenL.less hs _ _ h6.2⟩⟩
  | exc c => exact ok
  | fK ds => obtain ⟨o', xs, h3, h4⟩ := ok; exact ⟨o', xs, h3, ⟨h4.1, DenL.less hs _ _ h4.2⟩⟩
  | fT ds => obtain ⟨o', xs, h3, h4⟩ := ok; exact ⟨o', xs, h3, ⟨h4.1, DenL.less hs _ _ h4.2⟩⟩
/-- a hidden new list is written: from the loop's start on that is nothing -/
theorem Ext.overNew {r1 : List Addr} {H1 : Hp} {p : Addr} {o : HO} (e : Ext r1 H1 r H) (hp : H1 p = none) : Ext r1 H1 r (upd H p o) := by
  refine ⟨e.pre, fun b u h n => ?_, fun b u h => ?_, fun b u w h => ?_, fun b u h => ?_, fun b h => ?_⟩
  · rw [upd_ne (ne_of_none h hp)]; exact e.keep b u h n
  · rw [upd_ne (ne_of_none h hp)]; exact e.tups b u h
  · rw [upd_ne (ne_of_none h hp)]; exact e.frzs b u w h
  · rw [upd_ne (ne_of_none h hp)]; exact e.owns b u h
  · by_cases z : b = p
    · subst z; rw [upd_same]; exact fun z => nomatch z
    · rw [upd_ne z]; exact e.there b h
end
theorem wipe_off {vs : List Nat} : ∀ {us : List Nat} {c : St} {j : Nat}, j ∉ us → (wipe c us)[j]? = c[j]?
  | [], _, _, _ => rfl
  | y :: us, c, j, hu => by
    show ((wipe c us).set y none)[j]? = c[j]?
    rw [List.getElem?_set_ne (fun e => hu (by rw [e]; exact List.mem_cons_self)), wipe_off (vs := vs) fun e => hu (List.mem_cons_of_mem _ e)]
theorem wipe_on : ∀ {us : List Nat} {c : St} {j : Nat}, j ∈ us → j < c.length → (wipe c us)[j]? = some none
  | [], _, _, hu, _ => by cases hu
  | y :: us, c, j, hu, hc => by
    show ((wipe c us).set y none)[j]? = some none
    by_cases hy : y = j
    · subst hy
      rw [List.getElem?_set_self (by rw [wipe_length]; exact hc)]
    · rw [List.getElem?_set_ne hy]
      exact wipe_on ((List.mem_cons.mp hu).resolve_left fun e => hy e.symm) hc
theorem wipe_eq {a b : St} {vs : List Nat} (hl : a.length = b.length) (h : ∀ j, j ∉ vs → a[j]? = b[j]?) : wipe a vs = wipe b vs := by
  refine List.ext_getElem? fun j => ?_
  by_cases hv : j ∈ vs
  · by_cases hc : j < a.length
    · rw [wipe_on hv hc, wipe_on hv (by rw [← hl]; exact hc)]
    · rw [List.getElem?_eq_none (by rw [wipe_length]; omega), List.getElem?_eq_none (by rw [wipe_length]; omega)]
  · rw [wipe_off (vs := []) hv, wipe_off (vs := []) hv]
    exact h j hv
theorem wipe_back {σ σ2 : St} {vs own : List Nat} (off : Off own (wipe σ vs) σ2) (ho : ∀ i ∈ own, i ∈ vs) : wipe σ2 vs = wipe σ vs := by
  refine wipe_eq (by rw [off.1, wipe_length]) fun j hj => ?_
  rw [off.2 j fun z => hj (ho j z), wipe_off (vs := []) hj]
end DL
end L2

set_option Elab.async false
set_option linter.all false
set_option maxRecDepth 100000
namespace L2
namespace DL
open PySem PySem.Spec PyProof.Rows

theorem Out.bind_assoc {A B C : Type} (m : Out A) (f : A → Sto → Out B) (g : B → Sto → Out C) : (m.bind f).bind g = m.bind fun a S => (f a S).bind g := by
  cases m <;> rfl
section
variable {X : Cx} {W : WX} {tg iter elt : Expr} {it : DI} {g : DG} {tt : DB} {te : DE} {scope : Scope} {own : List (Str × Nat)} {go : List Nat} {ifs : List Expr} {pos : Pos} {σ : St} {H : Hp} {Q : VK}
/-- between two turns of a comprehension whose new list stands at p -/
def CInv (X : Cx) (W : WX) (g : DG) (vs : List Nat) (tt : DB) (te : DE) (σ : St) (Q : VK) (env : Ev) (t r1 : List Addr) (H1 : Hp) (p : Addr) (tok : List (V × D)) (ds : List D) (H2 : Hp) : Prop :=
  ∃ r2 S2 acc accV, H2 p = some (.lst accV) ∧ DenL X.K H2 r2 (p :: t) accV acc ∧ Rel X.K X.mg H2 r2 (p :: t) S2 (wipeE env vs) (wipe σ vs) ∧ Ext r1 H1 r2 H2 ∧
      (∀ q ∈ tok, Den X.K H2 r2 (p :: t) q.1 q.2) ∧ Good X.K X.mg t (EW W σ) r1 H1 ((compGo g (wipeE env vs) tt te ds acc S2).bind fun acc S2 => .ok (.lst acc) S2) fun d _ r' H' => ∀ v, Den X.K H' r' t v d → Q v H'
theorem tLc_of {vs : List Nat} (hgo : ∀ i ∈ go, i ∈ vs) (q : tE X W (dComp it g vs tt te) σ H Q) : tLc (tI X W it) (tG X.K X.mg go g) (tB' X W0 tt) (tE X W0 te) vs σ H Q := by
  obtain ⟨r, t, S, env, rel, g0⟩ := q
  refine ⟨r, t, S, env, rel, g0.bind.mono fun ds S1 r1 H1 ex so g1 J tok walk htok p hp => ?_⟩
  have rel1 := rel.ext ex so
  have nn := notinNew so hp
  refine ⟨fun i m H2 => m = ds.length - i ∧ i ≤ ds.length ∧ CInv X W g vs tt te σ Q env t r1 H1 p tok (ds.drop i) H2,
    ⟨ds.length, rfl, Nat.zero_le _, r1, S1, [], [], upd_same, .nil, (rel1.hide hp).wipes vs, Ext.new hp, fun q hq => Den.hide hp _ _ (htok q hq), g1⟩, ?_⟩
  rintro i m H2 ⟨rfl, hi, r2, S2, acc, accV, hD2, dacc, rel2, ex2, htok2, g2⟩
  have wk := walk i r2 (p :: t) H2 S2 rel2.so htok2
  have nD : p ∉ r2 := (rel2.so.hid p List.mem_cons_self).2
  by_cases hlt : i < ds.length
  · obtain ⟨hgo1, hyl⟩ := wk.2 ds[i] (List.getElem?_eq_getElem hlt)
    rw [List.drop_eq_getElem_cons hlt] at g2
    unfold compGo at g2
    cases hE : g (wipeE env vs) ds[i] with
    | none => rw [hE] at g2; exact (show False from g2).elim
    | some env' =>
      rw [hE] at g2
      dsimp only at g2
      rw [Out.bind_assoc] at g2
      refine .inr ⟨hgo1, fun H3 => CInv X W g vs tt te σ Q env t r1 H1 p tok (ds.drop (i + 1)) H3, fun H' h => ⟨ds.length - (i + 1), by omega, rfl, hlt, h⟩, fun x H' y => ?_⟩
      obtain ⟨exy, soy, dx⟩ := hyl x H' y
      have rely := rel2.ext exy soy
      refine ⟨r2, p :: t, S2, wipeE env vs, ds[i], rely, dx, env', hE, fun σ2 relS off => ⟨wipe_back off hgo, ?_⟩⟩
      refine ⟨r2, p :: t, S2, env', relS, (Good.split g2).mono fun b S3 r3 H3 ex3 so3 g3 => ?_⟩
      have exA := exy.trans ex3
      have hD3 : H3 p = some (.lst accV) := exA.keep p _ hD2 nD
      have rel3 := rely.ext ex3 so3
      have nD3 : p ∉ r3 := (so3.hid p List.mem_cons_self).2
      cases b with
      | false => exact iteF ⟨r3, S3, acc, accV, hD3, DenL.ext exA _ _ dacc, rel3, ex2.trans exA, fun q hq => Den.ext exA _ _ (htok2 q hq), g3⟩
      | true =>
        refine iteT ?_
        have g3' := g3
        rw [if_pos rfl, Out.bind_assoc] at g3'
        refine ⟨r3, p :: t, S3, env', relS.ext ex3 so3, (Good.split g3').mono fun y S4 r4 H4 ex4 so4 g4 yv dyv => ?_⟩
        have hD4 : H4 p = some (.lst accV) := ex4.keep p _ hD3 nD3
        have hz : acc.length < sizeLine ∧ Good X.K X.mg t (EW W σ) r1 H1 ((compGo g (wipeE env vs) tt te (ds.drop (i + 1)) (acc ++ [y]) S4).bind fun acc S2 => .ok (.lst acc) S2) (fun d _ r' H' => ∀ v, Den X.K H' r' t v d → Q v H') := by
          by_cases hz : acc.length < sizeLine
          · rw [if_pos hz] at g4; exact ⟨hz, g4⟩
          · rw [if_neg hz] at g4; exact (show False from g4).elim
        have exB := exA.trans ex4
        have hT : ∀ ys, H4 p ≠ some (.tup ys) := fun ys e => by rw [hD4] at e; cases e
        have hF : ∀ ob u, H4 p ≠ some (.frz ob u) := fun ob u e => by rw [hD4] at e; cases e
        have mD : p ∈ p :: t := List.mem_cons_self
        exact ⟨accV, hD4, by rw [dacc.length]; exact hz.1, r4, S4, acc ++ [y], accV ++ [yv], upd_same, DenL.over mD hT hF _ _ ((DenL.ext exB _ _ dacc).append (.cons dyv .nil)), (rel3.ext ex4 so4).over mD hD4, (ex2.trans exB).overNew hp, fun q hq => Den.over mD hT hF _ _ (Den.ext exB _ _ (htok2 q hq)), hz.2⟩
  · have e : i = ds.length := by omega
    subst e
    rw [List.drop_length] at g2
    refine .inl ⟨wk.1 rfl, ?_⟩
    have sub : ∀ a ∈ t, a ∈ p :: t := fun a ha => List.mem_cons_of_mem _ ha
    exact g2 H2 r2 ex2 (rel2.so.less sub) _ (.lst hD2 nD nn.2 (DenL.less sub _ _ dacc))
theorem de_comp (hc : X.calm = true) (hN : X.N.Nodup) (hi : PI X tg iter (tI X W it)) (ok : BlkOk X.N X.env.scope scope own) (hgo : ∀ i ∈ go, i ∈ own.map (·.2))
    (hg : ∀ (s : Shared) (H : Hp) (C : Addr) (cl : List (Str × Addr)) (fp : List Addr), PG (X.blk s H scope (compEnvC scope cl C X.env) fp) tg (tG X.K X.mg go g)) (ht : ∀ (s : Shared) (H : Hp) (C : Addr) (cl : List (Str × Addr)) (fp : List Addr), PTs (X.blk s H scope (compEnvC scope cl C X.env) fp) ifs (tB' X W0 tt))
    (he : ∀ (s : Shared) (H : Hp) (C : Addr) (cl : List (Str × Addr)) (fp : List Addr), PE (X.blk s H scope (compEnvC scope cl C X.env) fp) elt (tE X W0 te)) (hs : ∀ x, foldedSetIterable iter X.env x = pure x := by intro _; rfl) :
    PE X (.ListComp elt [⟨tg, iter, ifs, 0⟩] scope pos) (tE X W (dComp it g (own.map (·.2)) tt te)) :=
  PE.imp (pe_lc hc hN hi ok hg ht he hs) fun _ _ _ q => tLc_of hgo q
theorem dts_nil : PTs X [] (tB' X W bYes) := ⟨fun pins s σ H Q I h => (pts_nil (X := X)).run pins s σ H Q I (by
  obtain ⟨r, t, S, env, rel, g⟩ := h
  exact g.here rel.so)⟩
end

/-! ### statements -/
inductive Fl where
  | nx | rt (d : D) | bk | ct
abbrev DS := Ev → Sto → Out (Fl × Ev)
abbrev WC (E : XK) : WX := fun c d _ H => E c d H
abbrev EC (E : XK) : Addr → Hp → Prop := fun C H => E (.ref C) none H
def fin (Dn : Ends) (K : PySem.W.Frag) (H : Hp) (r t : List Addr) (fl : Fl) (σ : St) : Prop := match fl with
  | .nx => Dn.nx σ H
  | .rt d => ∀ v, Den K H r t v d → Dn.rt v H
  | .bk => Dn.bk σ H
  | .ct => Dn.ct σ H
abbrev RS (X : Cx) (Dn : Ends) (t : List Addr) : (Fl × Ev) → Sto → List Addr → Hp → Prop := fun p S' r' H' => ∀ σ', Rel X.K X.mg H' r' t S' p.2 σ' → fin Dn X.K H' r' t p.1 σ'
def tS (X : Cx) (E : XK) (f : DS) : TS := fun Dn σ H => ∃ r t S env, Rel X.K X.mg H r t S env σ ∧ Good X.K X.mg t (EC E) r H (f env S) (RS X Dn t)
section
variable {X : Cx} {E : XK} {e : Expr} {st : Stmt} {rest : List Stmt} {f g : DS} {fe : DE} {pos : Pos}
theorem PS.imp {e : Stmt} {u u' : TS} (h : PS X e u) (k : ∀ D σ H, u' D σ H → u D σ H) : PS X e u' := ⟨fun pins s σ H D I q => h.run pins s σ H D I (k D σ H q)⟩
theorem PSs.imp {e : List Stmt} {u u' : TS} (h : PSs X e u) (k : ∀ D σ H, u' D σ H → u D σ H) : PSs X e u' := ⟨fun pins s σ H D I q => h.run pins s σ H D I (k D σ H q)⟩
def sNil : DS := fun env S => .ok (.nx, env) S
def sSeq (f g : DS) : DS := fun env S => (f env S).bind fun p S1 => match p.1 with
  | .nx => g p.2 S1
  | fl => .ok (fl, p.2) S1
theorem ds_nil : PSs X [] (tS X E sNil) := PSs.imp pss_nil fun D σ H q => by
  obtain ⟨r, t, S, env, rel, g⟩ := q
  exact g.here rel.so σ rel
theorem ds_one (h : PS X st (tS X E f)) : PSs X [st] (tS X E f) := pss_one h
theorem ds_cons (h1 : PS X st (tS X E f)) (h2 : PSs X rest (tS X E g)) : PSs X (st :: rest) (tS X E (sSeq f g)) := by
  refine PSs.imp (pss_cons h1 h2) fun D σ H q => ?_
  obtain ⟨r, t, S, env, rel, g0⟩ := q
  refine ⟨r, t, S, env, rel, g0.bind.mono fun p S1 r1 H1 ex so g1 σ1 rel1 => ?_⟩
  obtain ⟨fl, env1⟩ := p
  cases fl with
  | nx => exact ⟨r1, t, S1, env1, rel1, g1⟩
  | rt d => exact Good.here g1 so σ1 rel1
  | bk => exact Good.here g1 so σ1 rel1
  | ct => exact Good.here g1 so σ1 rel1
def sExpr (f : DE) : DS := fun env S => (f env S).bind fun _ S1 => .ok (.nx, env) S1
theorem ds_expr (he : PE X e (tE X (WC E) fe)) (hs : swapsWith e none pos.line X.env = pure false := by rfl) : PS X (.Expr e pos) (tS X E (sExpr fe)) := by
  refine PS.imp (ps_expr he hs) fun D σ H q => ?_
  obtain ⟨r, t, S, env, rel, g0⟩ := q
  exact ⟨r, t, S, env, rel, g0.bind.mono fun d S1 r1 H1 ex so g1 v dv => Good.here g1 so σ (rel.ext ex so)⟩
def sRet (f : DE) : DS := fun env S => (f env S).bind fun d S1 => .ok (.rt d, env) S1
theorem ds_ret (he : PE X e (tE X (WC E) fe)) : PS X (.Return (some e) pos) (tS X E (sRet fe)) := by
  refine PS.imp (ps_ret he) fun D σ H q => ?_
  obtain ⟨r, t, S, env, rel, g0⟩ := q
  exact ⟨r, t, S, env, rel, g0.bind.mono fun d S1 r1 H1 ex so g1 v dv => Good.here g1 so σ (rel.ext ex so) v dv⟩
def sFl (fl : Fl) : DS := fun env S => .ok (fl, env) S
theorem ds_retN : PS X (.Return none pos) (tS X E (sFl (.rt .non))) := PS.imp ps_retN fun D σ H q => by
  obtain ⟨r, t, S, env, rel, g⟩ := q
  exact g.here rel.so σ rel _ .non
theorem ds_break : PS X (.Break pos) (tS X E (sFl .bk)) := PS.imp ps_break fun D σ H q => by
  obtain ⟨r, t, S, env, rel, g⟩ := q
  exact g.here rel.so σ rel
theorem ds_continue : PS X (.Continue pos) (tS X E (sFl .ct)) := PS.imp ps_continue fun D σ H q => by
  obtain ⟨r, t, S, env, rel, g⟩ := q
  exact g.here rel.so σ rel
theorem ds_pass : PS X (.Pass pos) (tS X E (sFl .nx)) := PS.imp ps_pass fun D σ H q => by
  obtain ⟨r, t, S, env, rel, g⟩ := q
  exact g.here rel.so σ rel
def sIf (c : DB) (f g : DS) : DS := fun env S => (c env S).bind fun k S1 => if k = true then f env S1 else g env S1
theorem ds_if {c : Expr} {a b : List Stmt} {tc : DB} (hc : PT X c (tB' X (WC E) tc)) (ha : PSs X a (tS X E f)) (hb : PSs X b (tS X E g)) : PS X (.If c a b pos) (tS X E (sIf tc f g)) := by
  refine PS.imp (ps_if hc ha hb) fun D σ H q => ?_
  obtain ⟨r, t, S, env, rel, g0⟩ := q
  refine ⟨r, t, S, env, rel, g0.bind.mono fun k S1 r1 H1 ex so g1 => ?_⟩
  cases k with
  | true => exact iteT ⟨r1, t, S1, env, rel.ext ex so, g1⟩
  | false => exact iteF ⟨r1, t, S1, env, rel.ext ex so, g1⟩
def sSet (i : Nat) (f : DE) : DS := fun env S => (f env S).bind fun d S1 => .ok (.nx, env.set i (some d)) S1
theorem ds_set (i : Nat) {x : Str} {pos' : Pos} (hN : X.N.Nodup) (he : PE X e (tE X (WC E) fe)) (hi : X.N[i]? = some x := by rfl) (hx : Loc X.env.scope x := by first | exact .inl rfl | exact .inr rfl) (hs : swapsWith e (some (.Name x pos')) pos.line X.env = pure false := by rfl) (hf : X.fn x = true ∨ X.env.scope.names.lookup x = some .local := by first | exact .inl rfl | exact .inr rfl) :
    PS X (.Assign [.Name x pos'] e pos) (tS X E (sSet i fe)) := by
  refine PS.imp (ps_set hN hi hx he hs hf) fun D σ H q => ?_
  obtain ⟨r, t, S, env, rel, g0⟩ := q
  exact ⟨r, t, S, env, rel, g0.bind.mono fun d S1 r1 H1 ex so g1 v dv => Good.here g1 so _ ((rel.ext ex so).set i dv)⟩
def sAsg (f : DE) (g : DG) : DS := fun env S => (f env S).bind fun d S1 => (lift (g env d) S1).bind fun env' S2 => .ok (.nx, env') S2
theorem ds_asg {tg : Expr} {gg : DG} {own : List Nat} (he : PE X e (tE X (WC E) fe)) (hg : PG X tg (tG X.K X.mg own gg)) (hs : swapsWithSole [tg] e pos.line X.env = pure false := by rfl) (hw : swappedStores [tg] e X.env = pure none := by rfl)
    (h1 : (assignEach [tg] X.env).map (·.2) = [assign tg X.env] := by rfl) : PS X (.Assign [tg] e pos) (tS X E (sAsg fe gg)) := by
  refine PS.imp (ps_asg he hg hs hw h1) fun D σ H q => ?_
  obtain ⟨r, t, S, env, rel, g0⟩ := q
  refine ⟨r, t, S, env, rel, g0.bind.mono fun d S1 r1 H1 ex so g1 v dv => ?_⟩
  obtain ⟨env', e1, g2⟩ := g1.bind.lift
  exact ⟨r1, t, S1, env, d, rel.ext ex so, dv, env', e1, fun σ' rel' _ => Good.here (g2.here so) so σ' rel'⟩
theorem ds_setLc (i : Nat) {y : Str} {py : Pos} {elt tg iter : Expr} {ifs : List Expr} {scope : Scope} {own : List (Str × Nat)} {go : List Nat} {pos spos : Pos} {it : DI} {gg : DG} {tt : DB} {te : DE} (hc : X.calm = true) (hN : X.N.Nodup)
    (hsw : swapsWith (.ListComp elt [⟨tg, iter, ifs, 0⟩] scope pos) (some (.Name y py)) spos.line X.env = pure true) (hi : PI X tg iter (tI X (WC E) it)) (ok : BlkOk X.N X.env.scope scope own) (hgo : ∀ i ∈ go, i ∈ own.map (·.2))
    (hg : ∀ (s : Shared) (H : Hp) (C : Addr) (cl : List (Str × Addr)) (fp : List Addr), PG (X.blk s H scope (compEnvC scope cl C X.env) fp) tg (tG X.K X.mg go gg)) (ht : ∀ (s : Shared) (H : Hp) (C : Addr) (cl : List (Str × Addr)) (fp : List Addr), PTs (X.blk s H scope (compEnvC scope cl C X.env) fp) ifs (tB' X W0 tt))
    (he : ∀ (s : Shared) (H : Hp) (C : Addr) (cl : List (Str × Addr)) (fp : List Addr), PE (X.blk s H scope (compEnvC scope cl C X.env) fp) elt (tE X W0 te)) (hy : X.N[i]? = some y := by rfl) (hyl : X.env.scope.names.lookup y = some .local := by rfl) (hs : ∀ x, foldedSetIterable iter X.env x = pure x := by intro _; rfl) :
    PS X (.Assign [.Name y py] (.ListComp elt [⟨tg, iter, ifs, 0⟩] scope pos) spos) (tS X E (sSet i (dComp it gg (own.map (·.2)) tt te))) := by
  refine PS.imp (ps_setLc hc hN hy hyl hsw hi ok hg ht he hs) fun D σ H q => ?_
  obtain ⟨r, t, S, env, rel, g0⟩ := q
  exact tLc_of (W := WC E) hgo ⟨r, t, S, env, rel, g0.bind.mono fun d S1 r1 H1 ex so g1 v dv => Good.here g1 so _ ((rel.ext ex so).set i dv)⟩
/-- for -/
def forGo (g : DG) (b : DS) : List D → Ev → Sto → Out (Fl × Ev)
  | [], env, S => .ok (.nx, env) S
  | d :: ds, env, S => match g env d with
    | none => .bad
    | some env' => (b env' S).bind fun p S1 => match p.1 with
      | .nx => forGo g b ds p.2 S1
      | .ct => forGo g b ds p.2 S1
      | .bk => .ok (.nx, p.2) S1
      | .rt v => .ok (.rt v, p.2) S1
def sFor (it : DI) (g : DG) (b : DS) : DS := fun env S => (it env S).bind fun ds S1 => forGo g b ds env S1
theorem ds_for {tg iter : Expr} {body : List Stmt} {it : DI} {gg : DG} {own : List Nat} (hp : PassesOwn (model X.prog X.w) X.A X.env X.xe) (hc : X.calm = true) (hi : PI X tg iter (tI X (WC E) it)) (hg : PG X tg (tG X.K X.mg own gg)) (hb : PSs X body (tS X E f))
    (hs : ∀ x, foldedSetIterable iter X.env x = pure x := by intro _; rfl) : PS X (.For tg iter body [] pos) (tS X E (sFor it gg f)) := by
  refine PS.imp (ps_for hp hc hi hg hb hs) fun D σ H q => ?_
  obtain ⟨r, t, S, env, rel, g0⟩ := q
  refine ⟨r, t, S, env, rel, g0.bind.mono fun ds S1 r1 H1 ex so g1 J tok walk htok => ?_⟩
  refine ⟨fun i m σ2 H2 => m = ds.length - i ∧ i ≤ ds.length ∧ ∃ r2 S2 env2, Rel X.K X.mg H2 r2 t S2 env2 σ2 ∧ (∀ p ∈ tok, Den X.K H2 r2 t p.1 p.2) ∧ Good X.K X.mg t (EC E) r2 H2 (forGo gg f (ds.drop i) env2 S2) (RS X D t), ⟨ds.length, by simp, Nat.zero_le _, r1, S1, env, rel.ext ex so, htok, g1⟩, ?_⟩
  rintro i m σ2 H2 ⟨rfl, hi, r2, S2, env2, rel2, htok2, g2⟩
  have wk := walk i r2 t H2 S2 rel2.so htok2
  by_cases hlt : i < ds.length
  · obtain ⟨hgo1, hyl⟩ := wk.2 ds[i] (List.getElem?_eq_getElem hlt)
    rw [List.drop_eq_getElem_cons hlt] at g2
    unfold forGo at g2
    cases hE : gg env2 ds[i] with
    | none => rw [hE] at g2; exact (show False from g2).elim
    | some env' =>
      rw [hE] at g2
      dsimp only at g2
      refine .inr ⟨hgo1, fun σ3 H3 => ∃ m', m' < ds.length - i ∧ m' = ds.length - (i + 1) ∧ i + 1 ≤ ds.length ∧ ∃ r2 S2 env2, Rel X.K X.mg H3 r2 t S2 env2 σ3 ∧ (∀ p ∈ tok, Den X.K H3 r2 t p.1 p.2) ∧ Good X.K X.mg t (EC E) r2 H3 (forGo gg f (ds.drop (i + 1)) env2 S2) (RS X D t), fun σ' H' h => h, fun x H' y => ?_⟩
      obtain ⟨exy, soy, dx⟩ := hyl x H' y
      refine ⟨r2, t, S2, env2, ds[i], rel2.ext exy soy, dx, env', hE, fun σ3 rel3 _ => ?_⟩
      refine ⟨r2, t, S2, env', rel3, (g2.ext exy).bind.mono fun p S4 r4 H4 ex4 so4 g4 σ4 rel4 => ?_⟩
      have tk : ∀ p ∈ tok, Den X.K H4 r4 t p.1 p.2 := fun p hp => Den.ext (exy.trans ex4) _ _ (htok2 p hp)
      obtain ⟨fl, env4⟩ := p
      cases fl with
      | nx => exact ⟨ds.length - (i + 1), by omega, rfl, hlt, r4, S4, env4, rel4, tk, g4⟩
      | ct => exact ⟨ds.length - (i + 1), by omega, rfl, hlt, r4, S4, env4, rel4, tk, g4⟩
      | bk => exact Good.here g4 so4 σ4 rel4
      | rt d => exact Good.here g4 so4 σ4 rel4
  · have e : i = ds.length := by omega
    subst e
    rw [List.drop_length] at g2
    exact .inl ⟨wk.1 rfl, Good.here g2 rel2.so σ2 rel2⟩
/-- while, with a number of turns that is never reached -/
def whGo (c : DB) (b : DS) : Nat → Ev → Sto → Out (Fl × Ev)
  | 0, _, _ => .bad
  | n + 1, env, S => (c env S).bind fun k S1 => if k = true then (b env S1).bind fun p S2 => match p.1 with
      | .nx => whGo c b n p.2 S2
      | .ct => whGo c b n p.2 S2
      | .bk => .ok (.nx, p.2) S2
      | .rt v => .ok (.rt v, p.2) S2
    else .ok (.nx, env) S1
def turns : Nat := 1000000
def sWhile (c : DB) (b : DS) : DS := fun env S => whGo c b turns env S
theorem ds_while {c : Expr} {body : List Stmt} {tc : DB} (hp : PassesOwn (model X.prog X.w) X.A X.env X.xe) (hc : PT X c (tB' X (WC E) tc)) (hb : PSs X body (tS X E f)) : PS X (.While c body [] pos) (tS X E (sWhile tc f)) := by
  refine PS.imp (ps_while hp hc hb) fun D σ H q => ?_
  obtain ⟨r, t, S, env, rel, g0⟩ := q
  refine ⟨fun m σ2 H2 => ∃ r2 S2 env2, Rel X.K X.mg H2 r2 t S2 env2 σ2 ∧ Good X.K X.mg t (EC E) r2 H2 (whGo tc f m env2 S2) (RS X D t), ⟨turns, r, S, env, rel, g0⟩, ?_⟩
  rintro m σ2 H2 ⟨r2, S2, env2, rel2, g2⟩
  cases m with
  | zero => exact (show False from g2).elim
  | succ n =>
    unfold whGo at g2
    refine ⟨r2, t, S2, env2, rel2, g2.bind.mono fun k S3 r3 H3 ex3 so3 g3 => ?_⟩
    cases k with
    | false => exact iteF (Good.here (show Good X.K X.mg t (EC E) r3 H3 (.ok (.nx, env2) S3) (RS X D t) from g3) so3 σ2 (rel2.ext ex3 so3))
    | true =>
      rw [if_pos rfl] at g3 ⊢
      refine ⟨fun σ4 H4 => ∃ m', m' < n + 1 ∧ ∃ r2 S2 env2, Rel X.K X.mg H4 r2 t S2 env2 σ4 ∧ Good X.K X.mg t (EC E) r2 H4 (whGo tc f m' env2 S2) (RS X D t), fun σ' H' h => h, ?_⟩
      refine ⟨r3, t, S3, env2, rel2.ext ex3 so3, g3.bind.mono fun p S4 r4 H4 ex4 so4 g4 σ4 rel4 => ?_⟩
      obtain ⟨fl, env4⟩ := p
      cases fl with
      | nx => exact ⟨n, by omega, r4, S4, env4, rel4, g4⟩
      | ct => exact ⟨n, by omega, r4, S4, env4, rel4, g4⟩
      | bk => exact Good.here g4 so4 σ4 rel4
      | rt d => exact Good.here g4 so4 σ4 rel4

/-! ### stores -/
def asR : D → Option Nat
  | .ref n => some n
  | _ => none
/-- xs.append(e) -/
def dAppend (fo fa : DE) : DE := fun env S => (fo env S).bind fun o S1 => if (lstOf S1 o).isSome = true then (fa env S1).bind fun y S2 => match o, lstOf S2 o with
  | .ref n, some ds => if ds.length < sizeLine then .ok .non (S2.set n (.lst (ds ++ [y]))) else .bad
  | _, _ => .bad
  else .bad
/-- xs[i] = e, a list -/
def sPutL (fo fi fe : DE) : DS := fun env S => (fe env S).bind fun y S1 => (fo env S1).bind fun o S2 => (fi env S2).bind fun i S3 => match o, lstOf S3 o, i with
  | .ref n, some ds, .int k => match ixN ds.length k with
    | some j => .ok (.nx, env) (S3.set n (.lst (ds.set j y)))
    | none => .bad
  | _, _, _ => .bad
end
section
variable {X : Cx} {W : WX} {E : XK} {o e i : Expr} {fo fa fi fe : DE} {apos pos pos' : Pos} {K : PySem.W.Frag} {mg : Str → Option Value} {H : Hp} {r t : List Addr} {S : Sto}
theorem ref_lst {n : Nat} {v : V} {ds : List D} (so : SOk K mg H r t S) (dv : Den K H r t v (.ref n)) (h : lstOf S (.ref n) = some ds) : ∃ a xs, v = .ref a ∧ r[n]? = some a ∧ H a = some (.lst xs) ∧ DenL K H r t xs ds := by
  obtain ⟨a, xs, e1, h1, z⟩ := lst_ok so dv h
  cases dv with
  | ref hn => cases e1; exact ⟨a, xs, rfl, hn, h1, z⟩
/-- a list cell is written -/
theorem put_lst {n : Nat} {a : Addr} {xs ys : List V} {es : List D} (so : SOk K mg H r t S) (hn : r[n]? = some a) (h : H a = some (.lst xs)) (z : DenL K H r t ys es) : Ext r H r (upd H a (.lst ys)) ∧ SOk K mg (upd H a (.lst ys)) r t (S.set n (.lst es)) := by
  have ex : Ext r H r (upd H a (.lst ys)) := Ext.write h trivial (List.mem_of_getElem? hn)
  exact ⟨ex, so.write hn h trivial ⟨ys, upd_same, DenL.ext ex _ _ z⟩⟩
theorem de_append (hb : PE X e (tBM X.K "list" rAppend (tE X W fo) (tCons (tE X W fa) tNil))) : PE X e (tE X W (dAppend fo fa)) := by
  refine PE.imp hb fun σ H Q q => ?_
  obtain ⟨r, t, S, env, rel, g⟩ := q
  refine ⟨r, t, S, env, rel, g.bind.mono fun od S1 r1 H1 ex so g1 v dv => ?_⟩
  have rel1 := rel.ext ex so
  obtain ⟨hty, g2⟩ := g1.ite
  obtain ⟨ds, hds⟩ := Option.isSome_iff_exists.mp hty
  obtain ⟨a, xs, ev, ha1, _⟩ := lst_ok so dv hds
  refine ⟨by rw [ev]; exact Or.inl ⟨rfl, _, SqL.of ha1⟩, r1, t, S1, env, rel1, g2.bind.mono fun y S2 r2 H2 ex2 so2 g3 yv dy => ?_⟩
  split at g3
  · rename_i n es he
    obtain ⟨hl, g4⟩ := g3.ite
    obtain ⟨b, ys, ev2, hn, hb, z⟩ := ref_lst so2 (Den.ext ex2 _ _ dv) he
    refine ⟨b, ys, yv, ev2, rfl, hb, by rw [z.length]; exact hl, ?_⟩
    obtain ⟨ex3, so3⟩ := put_lst so2 hn hb (z.append (.cons dy .nil))
    exact g4 _ r2 ex3 so3 _ .non
  · exact (show False from g3).elim
theorem ds_putL (ho : PE X o (tE X (WC E) fo)) (hi : PE X i (tE X (WC E) fi)) (he : PE X e (tE X (WC E) fe)) (hs : swapsWithSole [.Subscript o i pos'] e pos.line X.env = pure false := by rfl) (hw : swappedStores [.Subscript o i pos'] e X.env = pure none := by rfl)
    (h1 : (assignEach [.Subscript o i pos'] X.env).map (·.2) = [assign (.Subscript o i pos') X.env] := by rfl) (ha : ∀ v, assign (.Subscript o i pos') X.env v = (do
      let ov ← holding [v] (eval o X.env)
      let iv ← holding [v, ov] (eval i X.env)
      standAt pos'
      holding [v, ov, iv] (setItem ov iv v)
      release [v, ov, iv] []) := by intro _; rfl) : PS X (.Assign [.Subscript o i pos'] e pos) (tS X E (sPutL fo fi fe)) := by
  refine PS.imp (ps_asg he (pg_sub ho hi set_list ha) hs hw h1) fun D σ H q => ?_
  obtain ⟨r, t, S, env, rel, g⟩ := q
  refine ⟨r, t, S, env, rel, g.bind.mono fun y S1 r1 H1 ex so g1 yv dy => ?_⟩
  have rel1 := rel.ext ex so
  refine ⟨r1, t, S1, env, rel1, g1.bind.mono fun od S2 r2 H2 ex2 so2 g2 ov dov => ?_⟩
  have rel2 := rel1.ext ex2 so2
  refine ⟨r2, t, S2, env, rel2, g2.bind.mono fun id S3 r3 H3 ex3 so3 g3 iv div => ?_⟩
  split at g3
  · rename_i n ds k hds
    split at g3
    · rename_i j hj
      obtain ⟨b, ys, ev2, hn, hb, z⟩ := ref_lst so3 (Den.ext ex3 _ _ dov) hds
      cases div
      obtain ⟨ex4, so4⟩ := put_lst so3 hn hb (z.set j (Den.ext (ex2.trans ex3) _ _ dy))
      exact ⟨b, ys, k, j, ev2, rfl, hb, by rw [z.length]; exact hj, g3 _ r3 ex4 so4 σ ((rel2.ext ex3 so3).ext ex4 so4)⟩
    · exact (show False from g3).elim
  · exact (show False from g3).elim
end

/-! ### defs -/
section
variable {P : Program} {w : World} {K : PySem.W.Frag} {mg : Str → Option Value} {base : Heap}
def dFun (m : Nat) (g : DS) : Fn := fun ds S => (g (ds.map some ++ List.replicate (m - ds.length) none) S).bind fun p S1 => match p.1 with
  | .nx => .ok .non S1
  | .rt d => .ok d S1
  | _ => .bad
/-- .. that lets no exception out -/
def dFun0 (m : Nat) (g : DS) : Fn := fun ds S => noexc (dFun m g ds S)
theorem rel_start {H : Hp} {r t : List Addr} {S : Sto} {vs : List V} {ds : List D} {N : List Str} (so : SOk K mg H r t S) (z : DenL K H r t vs ds) : Rel K mg H r t S (ds.map some ++ List.replicate (N.length - ds.length) none) (start N vs) := by
  unfold start
  refine ⟨so, by simp [z.length], fun i d h => ?_⟩
  by_cases hi : i < ds.length
  · rw [List.getElem?_append_left (by rw [List.length_map]; exact hi), List.getElem?_map] at h
    obtain ⟨d', h1, h2⟩ := Option.map_eq_some_iff.mp h
    have e := Option.some.inj h2
    subst e
    obtain ⟨v, h3, h4⟩ := z.get h1
    refine ⟨v, ?_, h4⟩
    rw [List.getElem?_append_left (by rw [List.length_map, z.length]; exact hi), List.getElem?_map, h3]
    rfl
  · rw [List.getElem?_append_right (by rw [List.length_map]; omega)] at h
    exact absurd (List.mem_of_getElem? h) (by simp)
theorem fin_start {X : Cx} {H : Hp} {r t : List Addr} {S : Sto} {vs : List V} {ds : List D} {Q : VK} {E : XK} {g : DS} {m : Nat} (rel : Rel X.K X.mg H r t S (ds.map some ++ List.replicate (m - ds.length) none) σ0)
    (q : Good X.K X.mg t (EC E) r H (dFun m g ds S) fun d _ r' H' => ∀ v, Den X.K H' r' t v d → Q v H') : tS X E g { nx := fun _ H' => Q .non H', rt := Q } σ0 H := by
  refine ⟨r, t, S, _, rel, (Good.bind q).mono fun p S1 r1 H1 ex so g1 σ1 rel1 => ?_⟩
  obtain ⟨fl, env⟩ := p
  cases fl with
  | nx => exact Good.here g1 so _ .non
  | rt d => exact fun v dv => Good.here g1 so v dv
  | bk => exact (show False from g1).elim
  | ct => exact (show False from g1).elim
theorem good0 {A : Type} {t r : List Addr} {H : Hp} {E E' : Addr → Hp → Prop} {m : Out A} {R : A → Sto → List Addr → Hp → Prop} (g : Good K mg t E r H (noexc m) R) : Good K mg t E' r H m R := by
  cases m with
  | ok a S => exact g
  | exc c S => exact (show False from g).elim
  | bad => exact (show False from g).elim
theorem Fun.okD {x qual : Str} {st : Stmt} {f : Addr} {fd : FuncData} {N ps : List Str} {k n : Nat} {g : DS} (F : Fun K x qual st f fd) (S : FnScope N ps (defScope st)) (hn : ps.length = n)
    (hbody : ∀ (cdv : Value) (A : Around) (outer : List Env) (s : Shared) (H : Hp) (E : XK), Room k (A.deeper (envOfC qual (defScope st) s.heap.objs.size f cdv)) →
      PSs (cxOf CX0 P w K mg base N qual (defScope st) f cdv A outer s H E).nox (defBody st) (tS (cxOf CX0 P w K mg base N qual (defScope st) f cdv A outer s H E).nox E0 g)) : FnOk P w K mg base CX0 (k + 1) f fd ps (spD K mg n (dFun0 N.length g)) := by
  refine F.ok S (fun vs H Q E h => h.1.trans hn.symm) fun cdv A outer s H vs Q E hr h => ⟨_, hbody cdv A outer s H E hr, ?_⟩
  obtain ⟨_, r, t, S0, ds, so, z, q⟩ := h
  exact fin_start (X := (cxOf CX0 P w K mg base N qual (defScope st) f cdv A outer s H E).nox) (vs := vs) (rel_start so z) (good0 q)
/-- a def that may raise -/
theorem Fun.okXD {x qual : Str} {st : Stmt} {f : Addr} {fd : FuncData} {N ps : List Str} {k n : Nat} {g : DS} (F : Fun K x qual st f fd) (S : FnScope N ps (defScope st)) (hn : ps.length = n)
    (hbody : ∀ (cdv : Value) (A : Around) (outer : List Env) (s : Shared) (H : Hp) (E : XK), Room k (A.deeper (envOfC qual (defScope st) s.heap.objs.size f cdv)) →
      PSs (cxOf (L2.CX P w) P w K mg base N qual (defScope st) f cdv A outer s H E) (defBody st) (tS (cxOf (L2.CX P w) P w K mg base N qual (defScope st) f cdv A outer s H E) E g)) : FnOk P w K mg base (L2.CX P w) (k + 1) f fd ps (spD K mg n (dFun N.length g)) := by
  refine F.okX S (fun vs H Q E h => h.1.trans hn.symm) fun cdv A outer s H vs Q E hr h => ⟨_, hbody cdv A outer s H E hr, ?_⟩
  obtain ⟨_, r, t, S0, ds, so, z, q⟩ := h
  exact fin_start (X := cxOf (L2.CX P w) P w K mg base N qual (defScope st) f cdv A outer s H E) (vs := vs) (rel_start so z) q
/-- another function that comes to the same -/
theorem spD_imp {n : Nat} {f f' : Fn} (h : ∀ ds S, ds.length = n → f ds S = f' ds S) : ∀ vs H Q E, spD K mg n f' vs H Q E → spD K mg n f vs H Q E := fun vs H Q E q => by
  obtain ⟨h1, r, t, S, ds, so, z, g⟩ := q
  refine ⟨h1, r, t, S, ds, so, z, ?_⟩
  rw [h ds S (z.length.symm.trans h1)]
  exact g
/-- a def of the module that may be called -/
structure Callee (P : Program) (w : World) (K : PySem.W.Frag) (mg : Str → Option Value) (base : Heap) (CX : CXT) (k : Nat) (x : Str) (n : Nat) (fn : Fn) : Prop where
  ex : ∃ f fd ps, FnOk P w K mg base CX k f fd ps (spD K mg n fn) ∧ mg x = some (.ref f) ∧ PySem.W.keepIn K (.ref f) = true ∧ Binds K fd ps []
theorem Callee.up {CX : CXT} {j k n : Nat} {x : Str} {fn : Fn} (c : Callee P w K mg base CX j x n fn) (h : j ≤ k) : Callee P w K mg base CX k x n fn := by
  obtain ⟨f, fd, ps, F, a, b, d⟩ := c
  exact ⟨f, fd, ps, F.mono h, a, b, d⟩
/-- it comes to another function that is the same -/
theorem Callee.as {CX : CXT} {k n : Nat} {x : Str} {fn fn' : Fn} (c : Callee P w K mg base CX k x n fn) (h : ∀ ds S, ds.length = n → fn ds S = fn' ds S) : Callee P w K mg base CX k x n fn' := by
  obtain ⟨f, fd, ps, F, a, b, d⟩ := c
  exact ⟨f, fd, ps, F.imp (spD_imp h), a, b, d⟩
theorem de_callC {X : Cx} {W : WX} {CX : CXT} {k n : Nat} {fn : Fn} {x : Str} {p pos : Pos} {e : Expr} {es : List Expr} {fs : DA} (c : Callee X.prog X.w X.K X.mg X.base CX k x n fn) (hr : Room k X.A) (hx : Thru CX X W) (ha : ArgN X W (e :: es) fs n) (hg : Gl X x := by rfl) (hdb : (x == ("__debug__" : Str)) = false := by decide)
    (he : starEach (e :: es) X.env = (false, eval e X.env) :: starEach es X.env := by rfl) (hpl : (backTo pos (starEach es X.env)).any (·.1) = false := by rfl) : PE X (.Call (.Name x p) (e :: es) [] pos) (tE X W (dCallF fn fs)) := by
  obtain ⟨f, fd, ps, F, a, b, d⟩ := c
  exact de_callF F hr hg a b d hx ha hdb he hpl
theorem hu65 {A : Around} {k : Nat} (hr : Room k A) : A.units + 65 < cLine := by have := hr.un; omega
end
end DL
end L2

set_option Elab.async false
set_option linter.all false
set_option maxRecDepth 100000
namespace L2
namespace DL
open PySem PySem.Spec PyProof.Rows

theorem sum_rawT {prog : Program} {w : World} {A : Around} {E : Value → Shared → Prop} {s : Shared} {l : Addr} {its : List Value} {ns : List Int} {Q : Value → Shared → Prop} (hh : A.handled = none) (hl : s.heap.IsTuple l its.toArray) (hi : IntsAre its ns)
    (h : ∀ h' tk t', (∀ b o, s.heap.get? b = some o → h'.get? b = some o) → Q (.int ns.sum t') { s with heap := h', toks := tk }) : wpAny (model prog w) A (call (.builtin "sum") [.ref l]) Q E s := by
  obtain ⟨xs, e⟩ := hi.allInts.items
  have hn : numsOf (intItems xs).toList = ns := by rw [← e]; exact hi.numsOf
  rw [nums_intItems] at hn
  rw [e] at hl
  refine PySem.W.ktm_sumG hh hl fun h' tk t' hk => ?_
  have := h h' tk t' hk
  rw [preSum_eq, List.take_of_length_le (by simp), hn]; exact this
section
variable {X : Cx}
theorem cr_sumT (hc : X.calm = true) : CallR X (.builtin "sum") (fun vs H Q => ∃ (a : Addr) (ns : List Int), vs = [V.ref a] ∧ SqT X.K H a (ns.map V.int) ∧ Q (.int ns.sum) H) := by
  intro pins s σ H vs us Q I r h
  obtain ⟨a, ns, rfl, hs, q⟩ := h
  obtain ⟨its, rv, hl, _⟩ := I.tuple hs
  rw [Vals.ref1 r]
  exact sum_rawT (I.ok.hd hc) (show s.heap.IsTuple a its.toArray from hl) rv.ints fun h' tk t' hk => ⟨.int _, H, I.kept hk, ⟨_, rfl⟩, q⟩
def oSumT : Sto → List D → Option D := fun _ ds => match ds with
  | [.tup xs] => (intsOf xs).map fun bs => .int bs.sum
  | _ => none
theorem cd_sumT (hc : X.calm = true) : CallD X (.builtin "sum") oSumT := by
  refine ⟨_, cr_sumT hc, fun r t S H ds vs d Q so dv e q => ?_⟩
  unfold oSumT at e
  split at e
  · obtain ⟨bs, h1, h2⟩ := Option.map_eq_some_iff.mp e
    subst h2
    cases dv with
    | cons d1 d2 =>
      cases d2
      cases d1 with
      | tup h0 z =>
        have h3 := sqT_of (K := X.K) h0
        rw [ints_eq h1] at z
        rw [z.ints] at h3
        exact ⟨_, bs, rfl, h3, q _ _ (Ext.refl _ _) so (.int _)⟩
  · cases e
def oSum : Sto → List D → Option D := orC oSumT oSumL
theorem cd_sum (hc : X.calm = true) : CallD X (.builtin "sum") oSum := (cd_sumT hc).or (cd_sumL hc)
/-- {} -/
def dNewK : DE := fun _ S => .ok (.ref S.length) (S ++ [.dK []])
def dNewT : DE := fun _ S => .ok (.ref S.length) (S ++ [.dT []])
theorem growC {K : PySem.W.Frag} {mg : Str → Option Value} {H : Hp} {r t : List Addr} {S : Sto} {p : Addr} {o : HO} {c : Cell} (so : SOk K mg H r t S) (hp : H p = none) (hc : CellOk K mg (upd H p o) (r ++ [p]) t p c) :
    SOk K mg (upd H p o) (r ++ [p]) t (S ++ [c]) ∧ Den K (upd H p o) (r ++ [p]) t (.ref p) (.ref S.length) := by
  refine ⟨so.grow hp hc, .ref ?_⟩
  rw [← so.len, List.getElem?_append_right (Nat.le_refl _), Nat.sub_self]
  rfl
theorem de_newK {W : WX} {pos : Pos} : PE X (.Dict [] [] pos) (tE X W dNewK) := by
  refine PE.imp pe_dnewK fun σ H Q q p hp => ?_
  obtain ⟨r, t, S, env, rel, g⟩ := q
  obtain ⟨so, d⟩ := growC (o := .dK []) (c := .dK []) rel.so hp ⟨[], upd_same, rfl, .nil⟩
  exact g _ _ (Ext.grow hp) so _ d
theorem de_newT {W : WX} {pos : Pos} : PE X (.Dict [] [] pos) (tE X W dNewT) := by
  refine PE.imp pe_dnewT fun σ H Q q p hp => ?_
  obtain ⟨r, t, S, env, rel, g⟩ := q
  obtain ⟨so, d⟩ := growC (o := .dT []) (c := .dT []) rel.so hp ⟨[], upd_same, rfl, .nil⟩
  exact g _ _ (Ext.grow hp) so _ d
end
/-- the law's promise, by what its function comes to -/
def spLaw (K : PySem.W.Frag) : Sp := fun vs H Q _ => ∃ (a : Addr) (ns : List Int), vs = [.ref a] ∧ FzL K H a (ns.map V.int) ∧ ns.length ≤ 63 ∧ ∀ H', Q (.bl true) H'
theorem denInts {K : PySem.W.Frag} {H : Hp} {r t : List Addr} : ∀ ns : List Int, DenL K H r t (ns.map V.int) (ns.map D.int)
  | [] => .nil
  | n :: ns => .cons (.int n) (denInts ns)
theorem law_ok {P : Program} {w : World} {K : PySem.W.Frag} {mg : Str → Option Value} {base : Heap} {CX : CXT} {k : Nat} {f : Addr} {fd : FuncData} {ps : List Str} {fn : Fn} (F : FnOk P w K mg base CX k f fd ps (spD K mg 1 fn))
    (h : ∀ ns : List Int, ns.length ≤ 63 → ∃ S, fn [.fz (ns.map D.int)] [] = .ok (.bl true) S) : FnOk P w K mg base CX k f fd ps (spLaw K) := by
  refine F.imp fun vs H Q E q => ?_
  obtain ⟨a, ns, rfl, hS, hl, q⟩ := q
  obtain ⟨S, e⟩ := h ns hl
  refine ⟨rfl, [], [], [], [.fz (ns.map D.int)], ⟨rfl, List.nodup_nil, fun n a c h => by simp at h, fun a h => by cases h⟩, .cons (.fz hS (denInts ns)) .nil, ?_⟩
  rw [e]
  intro H' r' _ _ v dv
  cases dv
  exact q H'
theorem only_fz {K : PySem.W.Frag} {H : Hp} {a : Addr} {xs : List V} (hO : Only H) (hS : SqL K H a xs) : FzL K H a xs := by
  rcases hS with (h | ⟨o, h⟩) | h
  · rcases hO a with z | ⟨o, ys, z⟩
    · rw [h] at z; cases z
    · rw [h] at z; cases z
  · exact .inl ⟨o, h⟩
  · exact .inr h
/-- the places of a def in the written part -/
theorem callee_mk {P : Program} {w : World} {K : PySem.W.Frag} {mg : Str → Option Value} {base : Heap} {CX : CXT} {k n : Nat} {x : Str} {fn : Fn} (c : Callee P w K mg base CX k x n fn) : Callee P w K mg base CX k x n fn := c
end DL
end L2

set_option Elab.async false
set_option linter.all false
set_option maxRecDepth 100000
namespace L2
namespace DL
open PySem PySem.Spec PyProof.Rows

/-! ### reckoning -/
theorem lift_some {A : Type} (a : A) (S : Sto) : lift (some a) S = .ok a S := rfl
theorem lift_none {A : Type} (S : Sto) : lift (none : Option A) S = .bad := rfl
theorem orO_some {o o' : Sto → D → D → Option D} {S : Sto} {x y d : D} (h : o S x y = some d) : orO o o' S x y = some d := by unfold orO; rw [h]
theorem orO_none {o o' : Sto → D → D → Option D} {S : Sto} {x y : D} (h : o S x y = none) : orO o o' S x y = o' S x y := by unfold orO; rw [h]
theorem iOp_int (c : Int → Int → Bool) (g : Int → Int → D) (S : Sto) (i j : Int) : iOp c g S (.int i) (.int j) = if c i j = true then some (g i j) else none := rfl
theorem add_ii (S : Sto) (i j : Int) : oAdd S (.int i) (.int j) = some (.int (i + j)) := rfl
theorem sub_ii (S : Sto) (i j : Int) : oSub S (.int i) (.int j) = some (.int (i - j)) := rfl
theorem neg_i (i : Int) : oNeg (.int i) = some (.int (-i)) := rfl
theorem lt_ii (S : Sto) (i j : Int) : oLt S (.int i) (.int j) = some (.bl (decide (i < j))) := rfl
theorem le_ii (S : Sto) (i j : Int) : oLe S (.int i) (.int j) = some (.bl (decide (i ≤ j))) := rfl
theorem gt_ii (S : Sto) (i j : Int) : oGt S (.int i) (.int j) = some (.bl (decide (j < i))) := rfl
theorem ge_ii (S : Sto) (i j : Int) : oGe S (.int i) (.int j) = some (.bl (decide (j ≤ i))) := rfl
theorem eq_ii (S : Sto) (i j : Int) : oEq S (.int i) (.int j) = some (.bl (decide (i = j))) := by
  show some (D.bl (false ^^ decide (i = j))) = _
  rw [Bool.false_xor]
theorem ne_ii (S : Sto) (i j : Int) : oNe S (.int i) (.int j) = some (.bl (!decide (i = j))) := by
  show some (D.bl (true ^^ decide (i = j))) = _
  rw [Bool.true_xor]
theorem eq_ss (S : Sto) (i j : Str) : oEq S (.str i) (.str j) = some (.bl (decide (i = j))) := by
  show some (D.bl (false ^^ decide (i = j))) = _
  rw [Bool.false_xor]
theorem ne_ss (S : Sto) (i j : Str) : oNe S (.str i) (.str j) = some (.bl (!decide (i = j))) := by
  show some (D.bl (true ^^ decide (i = j))) = _
  rw [Bool.true_xor]
theorem isnot_bb (S : Sto) (i j : Bool) : oIsNot S (.bl i) (.bl j) = some (.bl (!decide (i = j))) := by
  show some (D.bl (true ^^ decide (i = j))) = _
  rw [Bool.true_xor]
theorem is_bb (S : Sto) (i j : Bool) : oIs S (.bl i) (.bl j) = some (.bl (decide (i = j))) := by
  show some (D.bl (false ^^ decide (i = j))) = _
  rw [Bool.false_xor]
theorem is_non (S : Sto) (d : D) : oIs S d .non = some (.bl (isNonD d)) := by
  refine (orO_none (by cases d <;> rfl)).trans ?_
  show some (D.bl (false ^^ isNonD d)) = _
  rw [Bool.false_xor]
theorem isnot_non (S : Sto) (d : D) : oIsNot S d .non = some (.bl (!isNonD d)) := by
  refine (orO_none (by cases d <;> rfl)).trans ?_
  show some (D.bl (true ^^ isNonD d)) = _
  rw [Bool.true_xor]
theorem mul_ii {i j : Int} (S : Sto) (h : i.natAbs < 2 ^ 64 ∨ j.natAbs < 2 ^ 64) : oMul S (.int i) (.int j) = some (.int (i * j)) := by
  refine orO_some ((iOp_int _ _ _ _ _).trans (if_pos ?_))
  unfold mulC
  rw [Bool.or_eq_true, decide_eq_true_eq, decide_eq_true_eq]
  exact h
theorem mod_ii {i j : Int} (S : Sto) (h : 0 < j) : oMod S (.int i) (.int j) = some (.int (i % j)) := (iOp_int _ _ _ _ _).trans (if_pos (decide_eq_true h))
theorem div_ii {i j : Int} (S : Sto) (h : 0 < j) (h2 : j < 2 ^ 80) : oDiv S (.int i) (.int j) = some (.int (i / j)) := by
  refine (iOp_int _ _ _ _ _).trans (if_pos ?_)
  unfold divC
  rw [Bool.and_eq_true, decide_eq_true_eq, decide_eq_true_eq]
  exact ⟨h, h2⟩
theorem pow_ii {i j : Int} (S : Sto) (h : 0 ≤ j) (h2 : j ≤ 1000000) (h3 : i.natAbs < 2 ^ 64) : oPow S (.int i) (.int j) = some (.int (i ^ j.toNat)) := by
  refine (iOp_int _ _ _ _ _).trans (if_pos ?_)
  unfold powC
  rw [Bool.and_eq_true, Bool.and_eq_true, decide_eq_true_eq, decide_eq_true_eq, decide_eq_true_eq]
  exact ⟨⟨h, h2⟩, h3⟩
theorem at_nat {ds : List D} {i : Int} {d : D} (h0 : 0 ≤ i) (h : ds[i.toNat]? = some d) : atI ds i = some d := by
  have e : i = ((i.toNat : Nat) : Int) := by omega
  rw [e]
  exact atI_nat h
theorem ix_tupD (S : Sto) (ds : List D) (i : Int) : oIx S (.tup ds) (.int i) = atI ds i := by
  refine (orO_none rfl).trans ?_
  cases h : atI ds i with
  | none => exact (orO_none h).trans rfl
  | some d => exact orO_some h
theorem ix_lstD (S : Sto) (ds : List D) (i : Int) : oIx S (.lst ds) (.int i) = atI ds i := by
  cases h : atI ds i with
  | none => exact (orO_none h).trans rfl
  | some d => exact orO_some h
theorem ix_fzD (S : Sto) (ds : List D) (i : Int) : oIx S (.fz ds) (.int i) = atI ds i := by
  cases h : atI ds i with
  | none => exact (orO_none h).trans rfl
  | some d => exact orO_some h
theorem lst_ref {S : Sto} {n : Nat} {ds : List D} (hn : S[n]? = some (.lst ds)) : lstOf S (.ref n) = some ds := by
  unfold lstOf
  dsimp only
  rw [hn]
theorem list_ref {S : Sto} {n : Nat} {ds : List D} (hn : S[n]? = some (.lst ds)) : listOf S (.ref n) = some ds := lst_ref hn
theorem ix_refD {S : Sto} {n : Nat} {ds : List D} {i : Int} (hn : S[n]? = some (.lst ds)) : oIx S (.ref n) (.int i) = atI ds i := by
  have e : oIxL S (.ref n) (.int i) = atI ds i := by
    unfold oIxL
    rw [list_ref hn]
  cases h : atI ds i with
  | none => exact (orO_none (e.trans h)).trans rfl
  | some d => exact orO_some (e.trans h)
theorem at_lit0 (d : D) (ds : List D) : atI (d :: ds) 0 = some d := atI_nat (j := 0) rfl
theorem at_lit1 (a d : D) (ds : List D) : atI (a :: d :: ds) 1 = some d := atI_nat (j := 1) rfl
theorem at_lit2 (a b d : D) (ds : List D) : atI (a :: b :: d :: ds) 2 = some d := atI_nat (j := 2) rfl
theorem at_lit3 (a b c d : D) (ds : List D) : atI (a :: b :: c :: d :: ds) 3 = some d := atI_nat (j := 3) rfl
theorem len_fz (S : Sto) (ds : List D) : oLen S [.fz ds] = some (.int ds.length) := rfl
theorem len_lst (S : Sto) (ds : List D) : oLen S [.lst ds] = some (.int ds.length) := rfl
theorem len_tup (S : Sto) (ds : List D) : oLen S [.tup ds] = some (.int ds.length) := rfl
theorem len_ref {S : Sto} {n : Nat} {ds : List D} (hn : S[n]? = some (.lst ds)) : oLen S [.ref n] = some (.int ds.length) := by
  show (listOf S (.ref n)).map _ = _
  rw [list_ref hn]
  rfl
/-- a comprehension whose elements leave the store within I -/
theorem compGo_inv {g : DG} {env : Ev} {te : DE} (I : Sto → Prop) (P : D → Prop) : ∀ (ds acc : List D) (S : Sto), I S → (∀ d ∈ ds, ∀ S, I S → ∃ env' y S', g env d = some env' ∧ te env' S = .ok y S' ∧ I S' ∧ P y) → acc.length + ds.length ≤ sizeLine →
    ∃ ys S', compGo g env bYes te ds acc S = .ok (acc ++ ys) S' ∧ I S' ∧ ys.length = ds.length ∧ ∀ y ∈ ys, P y
  | [], acc, S, hI, _, _ => ⟨[], S, by rw [List.append_nil]; rfl, hI, rfl, fun _ h => by cases h⟩
  | d :: ds, acc, S, hI, hs, hl => by
    obtain ⟨env', y, S1, e1, e2, hI1, py⟩ := hs d List.mem_cons_self S hI
    rw [List.length_cons] at hl
    obtain ⟨ys, S2, e3, hI2, e4, py2⟩ := compGo_inv I P ds (acc ++ [y]) S1 hI1 (fun d hd => hs d (List.mem_cons_of_mem _ hd)) (by rw [List.length_append]; simp only [List.length_cons, List.length_nil]; omega)
    refine ⟨y :: ys, S2, ?_, hI2, by rw [List.length_cons, List.length_cons, e4], fun z hz => ?_⟩
    · unfold compGo
      rw [e1]
      dsimp only
      unfold bYes
      show (noexc (te env' S)).bind _ = _
      rw [e2]
      show (if acc.length < sizeLine then compGo g env bYes te ds (acc ++ [y]) S1 else .bad) = _
      rw [if_pos (by omega), e3, List.append_assoc]
      rfl
    · rcases List.mem_cons.mp hz with e | e
      · rw [e]; exact py
      · exact py2 z e
/-- a pure one -/
theorem compGo_map {g : DG} {env : Ev} {te : DE} {S : Sto} (f : D → D) : ∀ (ds acc : List D), (∀ d ∈ ds, ∃ env', g env d = some env' ∧ te env' S = .ok (f d) S) → acc.length + ds.length ≤ sizeLine → compGo g env bYes te ds acc S = .ok (acc ++ ds.map f) S
  | [], acc, _, _ => by rw [List.map_nil, List.append_nil]; rfl
  | d :: ds, acc, hs, hl => by
    obtain ⟨env', e1, e2⟩ := hs d List.mem_cons_self
    rw [List.length_cons] at hl
    have ih := compGo_map f ds (acc ++ [f d]) (fun d hd => hs d (List.mem_cons_of_mem _ hd)) (by rw [List.length_append]; simp only [List.length_cons, List.length_nil]; omega)
    unfold compGo
    rw [e1]
    dsimp only
    unfold bYes
    show (noexc (te env' S)).bind _ = _
    rw [e2]
    show (if acc.length < sizeLine then compGo g env bYes te ds (acc ++ [f d]) S else .bad) = _
    rw [if_pos (by omega), ih, List.append_assoc]
    rfl
/-- a for whose turns go on, or leave the loop -/
theorem forGo_inv {g : DG} {b : DS} (I : Ev → Sto → Prop) : ∀ (ds : List D) (env : Ev) (S : Sto), I env S → (∀ d ∈ ds, ∀ env S, I env S → ∃ env1 fl env2 S', g env d = some env1 ∧ b env1 S = .ok (fl, env2) S' ∧ I env2 S' ∧ (fl = .nx ∨ fl = .bk)) →
    ∃ env' S', forGo g b ds env S = .ok (.nx, env') S' ∧ I env' S'
  | [], env, S, hI, _ => ⟨env, S, rfl, hI⟩
  | d :: ds, env, S, hI, hs => by
    obtain ⟨env1, fl, env2, S1, e1, e2, hI1, hfl⟩ := hs d List.mem_cons_self env S hI
    rcases hfl with e | e
    · subst e
      obtain ⟨env', S', e3, hI2⟩ := forGo_inv I ds env2 S1 hI1 (fun d hd => hs d (List.mem_cons_of_mem _ hd))
      refine ⟨env', S', ?_, hI2⟩
      unfold forGo
      rw [e1]
      dsimp only
      rw [e2]
      exact e3
    · subst e
      refine ⟨env2, S1, ?_, hI1⟩
      unfold forGo
      rw [e1]
      dsimp only
      rw [e2]
      rfl
theorem seq_nx {f g : DS} {env env' : Ev} {S S' : Sto} (h : f env S = .ok (.nx, env') S') : sSeq f g env S = g env' S' := by
  unfold sSeq
  rw [h]
  rfl
theorem seq_rt {f g : DS} {env env' : Ev} {S S' : Sto} {d : D} (h : f env S = .ok (.rt d, env') S') : sSeq f g env S = .ok (.rt d, env') S' := by
  unfold sSeq
  rw [h]
  rfl
theorem seq_fl {f g : DS} {env env' : Ev} {S S' : Sto} {fl : Fl} (h : f env S = .ok (fl, env') S') (hf : fl ≠ .nx) : sSeq f g env S = .ok (fl, env') S' := by
  unfold sSeq
  rw [h]
  cases fl with
  | nx => exact absurd rfl hf
  | _ => rfl
theorem if_t {c : DB} {f g : DS} {env : Ev} {S S' : Sto} (h : c env S = .ok true S') : sIf c f g env S = f env S' := by
  unfold sIf
  rw [h]
  rfl
theorem if_f {c : DB} {f g : DS} {env : Ev} {S S' : Sto} (h : c env S = .ok false S') : sIf c f g env S = g env S' := by
  unfold sIf
  rw [h]
  rfl
theorem fun0_rt {m : Nat} {g : DS} {ds : List D} {S S' : Sto} {d : D} {env : Ev} (h : g (ds.map some ++ List.replicate (m - ds.length) none) S = .ok (.rt d, env) S') : dFun0 m g ds S = .ok d S' := by
  unfold dFun0 dFun
  rw [h]
  rfl
theorem asB_bl (b : Bool) : asB (.bl b) = some b := rfl
theorem ite_ok {A : Type} {c : Bool} {x y : A} : (if c = true then x else y) = bif c then x else y := by cases c <;> rfl
theorem putL_ref {fo fi fe : DE} {env : Ev} {S S1 S2 S3 : Sto} {y : D} {n j : Nat} {ds : List D} {k : Int} (h1 : fe env S = .ok y S1) (h2 : fo env S1 = .ok (.ref n) S2) (h3 : fi env S2 = .ok (.int k) S3) (hl : S3[n]? = some (.lst ds)) (hk : ixN ds.length k = some j) :
    sPutL fo fi fe env S = .ok (.nx, env) (S3.set n (.lst (ds.set j y))) := by
  unfold sPutL
  rw [h1, Out.bind_ok, h2, Out.bind_ok, h3, Out.bind_ok, lst_ref hl]
  dsimp only
  rw [hk]
theorem append_ref {fo fa : DE} {env : Ev} {S S1 S2 : Sto} {y : D} {n : Nat} {ds es : List D} (h1 : fo env S = .ok (.ref n) S1) (hl : S1[n]? = some (.lst ds)) (h2 : fa env S1 = .ok y S2) (hl2 : S2[n]? = some (.lst es)) (hz : es.length < sizeLine) :
    dAppend fo fa env S = .ok .non (S2.set n (.lst (es ++ [y]))) := by
  unfold dAppend
  rw [h1, Out.bind_ok, lst_ref hl]
  refine (if_pos (show (some ds).isSome = true from rfl)).trans ?_
  rw [h2, Out.bind_ok, lst_ref hl2]
  dsimp only
  rw [if_pos hz]
theorem set_get {S : Sto} {n : Nat} {c d : Cell} (h : S[n]? = some c) : (S.set n d)[n]? = some d := List.getElem?_set_self (List.getElem?_eq_some_iff.mp h).1
theorem set_set (S : Sto) (n : Nat) (c d : Cell) : (S.set n c).set n d = S.set n d := List.set_set ..
theorem set_same {S : Sto} {n : Nat} {c : Cell} (h : S[n]? = some c) : S.set n c = S := by
  refine List.ext_getElem? fun i => ?_
  by_cases e : n = i
  · subst e; rw [set_get h, h]
  · rw [List.getElem?_set_ne e]
end DL
end L2

set_option Elab.async false
set_option linter.all false
set_option maxRecDepth 100000
namespace L2
namespace DL
open PySem PySem.Spec PyProof.Rows

/-! ### enumerate of a tuple -/
theorem enumT_new (a : Addr) (items : Array Value) (n : Nat) (dct : Option Addr) (sl : Array (Option Value)) : Meets (Builtin.«enumerate.__new__» ⟨[.type "enumerate", .ref a], []⟩)
    (fun _ R s => s.heap.get? a = some { cls := .type "tuple", dict := dct, data := .seq items n, slots := sl } ∧ R (.ok (.ret (.ref (s.heap.push { cls := .type "tuple_iterator", data := .fields #[.ref a, .int 0 0] }).objs.size)))
      { s with heap := (s.heap.push { cls := .type "tuple_iterator", data := .fields #[.ref a, .int 0 0] }).push { cls := .type "enumerate", data := .fields #[.none, .bool false, .ref s.heap.objs.size, rawInt 0, .none, .none] } }) :=
  .of_wp fun prog w A R s hh => by
    obtain ⟨hp, g, dr, tk, os⟩ := s
    obtain ⟨ha, hr⟩ := hh
    have sub := sub_enumerate
    have isT : Heap.IsTuple (Shared.heap ⟨hp, g, dr, tk, os⟩) a items := ⟨_, ha, rfl, n, rfl⟩
    wp_walk using wpAny_loadPart' ha
    refine wpAny_stack_any fun _ => wpAny_pure ?_
    split
    · rename_i cc _ _ _ _ _
      cases (cc == Value.type "enumerate")
      · wp_walk using wpAny_loadPart' ha, wpAny_pyIter_tuple isT
        exact ⟨_, rfl, hr⟩
      · wp_walk using wpAny_loadPart' ha, wpAny_pyIter_tuple isT
        exact ⟨_, rfl, hr⟩
    · wp_walk using wpAny_loadPart' ha, wpAny_pyIter_tuple isT
      exact ⟨_, rfl, hr⟩
section
variable {prog : Program} {w : World} {A : Around} {E : Value → Shared → Prop} {s : Shared}
theorem enumT_call {a : Addr} {items : Array Value} {Q : Value → Shared → Prop} (ht : s.heap.IsTuple a items)
    (q : ∀ h', IsEnum h' (s.heap.objs.size + 1) s.heap.objs.size 0 .none → h'.IsTupleIter s.heap.objs.size a 0 → (∀ b o, s.heap.get? b = some o → h'.get? b = some o) → Q (.ref (s.heap.objs.size + 1)) { s with heap := h' }) :
    wpAny (model prog w) A (call (.type "enumerate") [.ref a]) Q E s := by
  obtain ⟨⟨c, dct, dt, sl⟩, ha, hc, n, hd⟩ := ht
  have hc' : c = .type "tuple" := hc
  have hd' : dt = .seq items n := hd
  subst hc' hd'
  refine callType_new F.called_enumerate (by decide) (F.typeCall_enumerate_1 _) (F.newCall_enumerate_1 _) (fun ob => F.args_object_init_2 ob _) F.entry_enumerate_new (enumT_new a items n dct sl) ⟨ha, ?_⟩
  have sz : (s.heap.push { cls := .type "tuple_iterator", data := .fields #[.ref a, .int 0 0] }).objs.size = s.heap.objs.size + 1 := Heap.size_push ..
  show _ ∧ _
  rw [sz]
  have he := Heap.get?_push_size (s.heap.push { cls := .type "tuple_iterator", data := .fields #[.ref a, .int 0 0] }) (o := { cls := .type "enumerate", data := .fields #[.none, .bool false, .ref s.heap.objs.size, rawInt 0, .none, .none] }) rfl
  rw [sz] at he
  exact ⟨⟨_, he, rfl⟩, q _ he ⟨_, Heap.get?_push_of_some _ (Heap.get?_push_size _ rfl), rfl, rfl⟩ fun b o x => Heap.get?_push_of_some _ (Heap.get?_push_of_some _ x)⟩
end
/-- the tuple at a, each item in a new pair with its place -/
def IteT (K : PySem.W.Frag) (a : Addr) : It :=
  ⟨fun i H => ∃ xs x, SqT K H a xs ∧ xs[i]? = some x, fun i H v H' => ∃ T x, v = .ref T ∧ H T = none ∧ H' = upd H T (.tup [.int (i : Nat), x]) ∧ ∀ xs, SqT K H a xs → xs[i]? = some x, fun i H => ∃ xs, SqT K H a xs ∧ xs.length ≤ i⟩
theorem turn_enumT {P : Program} {w : World} {K : PySem.W.Frag} {elts : List Expr} {kk : Nat} {tpos : Pos} (a e it : Addr) :
    Turn P w K (.Tuple elts kk tpos) (IteT K a) [e, it] e (fun i h => (∃ old, IsEnum h e it ((i : Nat) : Int) old) ∧ h.IsTupleIter it a i ∧ e ≠ it) where
  mem := List.mem_cons_self
  obj := fun i h st b hb => by
    obtain ⟨⟨old, he⟩, ⟨o, ho, hc, hd⟩, _⟩ := st
    rcases List.mem_cons.mp hb with z | z
    · rw [z]; exact ⟨_, he, fun v q => nomatch q⟩
    · rw [List.mem_singleton.mp z]; exact ⟨o, ho, fun v q => by rw [hd] at q; cases q⟩
  keep := fun i h h' st k => by
    obtain ⟨⟨old, he⟩, hi, hne⟩ := st
    exact ⟨⟨old, k e (by simp) _ he⟩, hi.at fun o q => k it (by simp) o q, hne⟩
  item := by
    intro X hP hw hK hc i pins s σ H E I hf st hg
    subst hP hw hK
    obtain ⟨⟨old, he⟩, hit, hne⟩ := st
    obtain ⟨xs, x, hq, hx⟩ := hg
    obtain ⟨its, rv, p, hz⟩ := I.tuple hq
    obtain ⟨u, hu, ru⟩ := rv.get hx
    have isT : s.heap.IsTuple a its.toArray := p
    have hel : e < s.heap.objs.size := Heap.lt_size he
    have hil : it < s.heap.objs.size := by
      obtain ⟨_, q, _⟩ := hit
      exact Heap.lt_size q
    have nea : e ≠ a := fun z => by
      obtain ⟨o, q, qc, _⟩ := isT
      rw [← z, he] at q
      cases q
      exact absurd (Value.type.inj qc) (by decide)
    have nia : a ≠ it := fun z => by
      obtain ⟨o, q, qc, _⟩ := isT
      obtain ⟨o2, q2, qc2, _⟩ := hit
      rw [z, q2] at q
      cases q
      rw [qc2] at qc
      exact absurd (Value.type.inj qc) (by decide)
    have hi : i < its.toArray.size := by
      have := (List.getElem?_eq_some_iff.mp hu).1
      simpa using this
    refine wpAny_pyNext_enum_itemD (Draws.tuple (A := X.A.in1) (I.ok.hd hc) it a nia its.toArray) he ⟨hit, isT⟩ hi hne (by intro z; rcases List.mem_cons.mp z with y | y; exact hne y; exact nea (List.mem_singleton.mp y)) fun y h' tk hy ho hs hT hsz hk => ?_
    have ey : y = u := by
      have h2 : its.toArray[i]? = some u := by simpa using hu
      rw [h2] at hy
      exact (Option.some.inj hy).symm
    subst ey
    refine ⟨_, rfl, wpAny_letOwnedTupleGo_enum (s := { s with heap := h', toks := tk + 1 }) ho fun h2 he2 sb => ?_⟩
    have hT2 : h2.get? s.heap.objs.size = some { cls := .type "tuple", data := .seq #[.int i tk, y] } := (sb.2 _ (Nat.ne_of_gt hel)).trans hT
    have new : ObjOk X.prog X.w (upd H s.heap.objs.size (.tup [.int (i : Nat), x])) h2 s.heap.objs.size (.tup [.int (i : Nat), x]) :=
      ⟨by show 2 ≤ sizeLine; decide, [.int i tk, y], .cons ⟨_, rfl⟩ (.cons ru .nil), ⟨_, hT2, rfl, _, rfl⟩⟩
    have I2 : Inv X pins σ (upd H s.heap.objs.size (.tup [.int (i : Nat), x])) { s with heap := h2, toks := tk + 1 } :=
      I.turnedNew (ch := [e, it]) (fun b ob hb q => (sb.2 b fun z => hb (by simp [z])).trans (hk b ob (fun z => hb (by simp [z])) (fun z => hb (by simp [z])) q)) hf (Nat.le_refl _) new
    refine ⟨.ref s.heap.objs.size, _, I2, rfl, ⟨_, x, rfl, I.hok.fresh (Nat.le_refl _), rfl, fun ys hys => by rw [I.tuple_inj hys hq]; exact hx⟩, ⟨⟨y, ?_⟩, hs.1.at fun o q => (sb.2 it (Ne.symm hne)).trans q, hne⟩, fun b hb => ?_⟩
    · have e1 : ((i + 1 : Nat) : Int) = (i : Int) + 1 := Int.natCast_succ i
      rw [e1]
      exact he2
    · have hb' : b < s.heap.objs.size := by
        rcases List.mem_cons.mp hb with z | z
        · rw [z]; exact hel
        · rw [List.mem_singleton.mp z]; exact hil
      rw [upd_ne (Nat.ne_of_lt hb')]
      exact (hf b hb).1
  done := by
    intro X hP hw hK hc i pins s σ H E I hf st hg
    subst hP hw hK
    obtain ⟨⟨old, he⟩, hit, hne⟩ := st
    obtain ⟨xs, hq, hx⟩ := hg
    obtain ⟨its, rv, p, hz⟩ := I.tuple hq
    have isT : s.heap.IsTuple a its.toArray := p
    have nia : a ≠ it := fun z => by
      obtain ⟨o, q, qc, _⟩ := isT
      obtain ⟨o2, q2, qc2, _⟩ := hit
      rw [z, q2] at q
      cases q
      rw [qc2] at qc
      exact absurd (Value.type.inj qc) (by decide)
    obtain ⟨f0, f1, f2, f3, f4, f5⟩ := hf it (by simp)
    -- the iterator stands at the end
    have hT : s.TypeIs (.ref e) "enumerate" := ⟨_, he, rfl⟩
    unfold pyNext
    refine wpAny_bind (wpAny_attempt (wpAny_callSpecial?_slot (name := Str.ofString "__next__") hT F.slot_enumerate_next (wpAny_call_entry F.slot_enumerate_next hT F.entry_enumerate_next ?_ (F.args_enumerate_next_1 _))))
    show wpAny _ _ (field (.ref e) 2 >>= _) _ _ _
    refine wpAny_bind (wpAny_field he rfl (x := .ref it) rfl ?_)
    have hend : its.toArray[i]? = none := by
      have := rv.length
      simp only [List.getElem?_toArray]
      exact List.getElem?_eq_none (by omega)
    refine wpAny_bind (wpAny_nextOf_tuple_end (A := X.A.in1) (I.ok.hd hc) hit isT hend fun h' y hx' hy => ?_)
    obtain ⟨o, ho, hcl⟩ := hy
    refine wpAny_bind (wpAny_isInstance (T := "StopIteration") (b := true) ⟨o, ho, hcl⟩ isSubtype_stop ?_)
    exact wpAny_pure ⟨rfl, I.turned (t' := s.toks) (fun b o hb q => hx' b o hb q) f0 f1 f3 f4 f5⟩
  self := fun A i s Q E st h => let ⟨⟨_, he⟩, _⟩ := st; wpAny_pyIter_enum he h
def iEnumT (K : PySem.W.Frag) (ta : TA) : TI := fun σ H R => ta σ H fun vs H1 => ∃ a xs, vs = [.ref a] ∧ SqT K H1 a xs ∧ R (IteT K a) H1
theorem pi_enumT {X : Cx} {e : Expr} {ta : TA} {p pos tpos : Pos} {elts : List Expr} {kk : Nat} (hg : Gl X "enumerate") (hm : X.mg "enumerate" = none) (ha : PA X [e] ta) (hs : starEach [e] X.env = [(false, eval e X.env)] := by rfl) : PI X (.Tuple elts kk tpos) (.Call (.Name "enumerate" p) [e] [] pos) (iEnumT X.K ta) := by
  refine ⟨fun pins s σ H R I h => ?_⟩
  refine Call_ (ld_blt I hg hm boot_enumerate (PyProof.Rows.callWith_type1 (thn (ha.run pos pins s σ H _ I h) fun us s1 ⟨vs, H1, I1, r1, q1⟩ => ?_) hs rfl))
  obtain ⟨a, xs, ex, hq, q⟩ := q1
  subst ex
  rw [Vals.ref1 r1]
  obtain ⟨its, rv, p2, hz⟩ := I1.tuple hq
  refine enumT_call (show s1.heap.IsTuple a its.toArray from p2) fun h' he hit hk => wpAny_pyIter_enum he ?_
  have I2 : Inv X pins σ H1 { s1 with heap := h' } := I1.kept (t' := s1.toks) hk
  have hle : ∀ b, b ∈ [s1.heap.objs.size + 1, s1.heap.objs.size] → s1.heap.objs.size ≤ b := fun b hb => by
    rcases List.mem_cons.mp hb with z | z
    · rw [z]; exact Nat.le_succ _
    · rw [List.mem_singleton.mp z]; exact Nat.le_refl _
  exact ⟨s1.heap.objs.size + 1, [s1.heap.objs.size + 1, s1.heap.objs.size], _, _, H1, rfl, I2, turn_enumT a (s1.heap.objs.size + 1) s1.heap.objs.size, ⟨⟨.none, he⟩, hit, Nat.succ_ne_self _⟩, fun b hb => I1.fpOk (hle b hb) (I1.hok.fresh (hle b hb)), q⟩
/-- the items with their places -/
def enumL : Nat → List D → List D
  | _, [] => []
  | n, d :: ds => .tup [.int (n : Nat), d] :: enumL (n + 1) ds
theorem enumL_get : ∀ {ds : List D} {n i : Nat} {d : D}, (enumL n ds)[i]? = some d → ∃ x, ds[i]? = some x ∧ d = .tup [.int ((n + i : Nat) : Int), x]
  | [], _, _, _, h => by cases h
  | x :: ds, n, 0, d, h => ⟨x, rfl, (Option.some.inj h).symm⟩
  | x :: ds, n, i + 1, d, h => by
    obtain ⟨y, h1, h2⟩ := enumL_get (ds := ds) (n := n + 1) (i := i) h
    exact ⟨y, h1, by rw [h2, Nat.add_right_comm]; rfl⟩
theorem enumL_len : ∀ (ds : List D) (n : Nat), (enumL n ds).length = ds.length
  | [], _ => rfl
  | _ :: ds, n => by rw [List.length_cons, ← enumL_len ds (n + 1)]; rfl
section
variable {X : Cx} {W : WX} {e : Expr} {f : DE} {elts : List Expr} {kk : Nat} {p pos tpos : Pos}
def iEnum (f : DE) : DI := fun env S => (f env S).bind fun d S1 => lift ((itemsOf d).map (enumL 0)) S1
theorem newPair {r t : List Addr} {H : Hp} {S : Sto} {x : V} {d : D} {T : Addr} {i : Nat} (so : SOk X.K X.mg H r t S) (hT : H T = none) (dx : Den X.K H r t x d) :
    Ext r H r (upd H T (.tup [.int (i : Int), x])) ∧ SOk X.K X.mg (upd H T (.tup [.int (i : Int), x])) r t S ∧ Den X.K (upd H T (.tup [.int (i : Int), x])) r t (.ref T) (.tup [.int (i : Int), d]) :=
  ⟨Ext.new hT, so.new hT, .tup upd_same (.cons (.int _) (.cons (Den.ext (Ext.new hT) _ _ dx) .nil))⟩
theorem walk_enumT {a : Addr} {ds : List D} : Walk X (IteT X.K a) [(.ref a, .tup ds)] (enumL 0 ds) := by
  intro i r t H S so tok
  have h := tok _ List.mem_cons_self
  cases h with
  | @tup a xs ds h0 z =>
    have h1 : SqT X.K H a xs := sqT_of h0
    refine ⟨fun e => ⟨xs, h1, by rw [z.length, e, enumL_len]; exact Nat.le_refl _⟩, fun d hd => ?_⟩
    obtain ⟨y, hy, ed⟩ := enumL_get hd
    obtain ⟨v, hv, dv⟩ := z.get hy
    refine ⟨⟨xs, v, h1, hv⟩, fun x H' yl => ?_⟩
    obtain ⟨T, x2, ev, hT, eH, hx⟩ := yl
    have ex := Option.some.inj (hv.symm.trans (hx xs h1))
    subst ev eH ex ed
    rw [Nat.zero_add]
    exact newPair so hT dv
theorem walk_enumL {a : Addr} {d0 : D} {ds : List D} (hd0 : d0 = .lst ds ∨ d0 = .fz ds) : Walk X (Ite X.K a) [(.ref a, d0)] (enumL 0 ds) := by
  intro i r t H S so tok
  have h := tok _ List.mem_cons_self
  obtain ⟨xs, h1, z⟩ : ∃ xs, SqL X.K H a xs ∧ DenL X.K H r t xs ds := by
    rcases hd0 with e | e
    · subst e
      cases h with
      | lst h1 n m z => exact ⟨_, .inl (.inl h1), z⟩
    · subst e
      cases h with
      | fz h1 z => exact ⟨_, h1.sq, z⟩
  refine ⟨fun e => ⟨xs, h1, by rw [z.length, e, enumL_len]; exact Nat.le_refl _⟩, fun d hd => ?_⟩
  obtain ⟨y, hy, ed⟩ := enumL_get hd
  obtain ⟨v, hv, dv⟩ := z.get hy
  refine ⟨⟨xs, v, h1, hv⟩, fun x H' yl => ?_⟩
  obtain ⟨T, x2, ev, hT, eH, hx⟩ := yl
  have ex := Option.some.inj (hv.symm.trans (hx xs h1))
  subst ev eH ex ed
  rw [Nat.zero_add]
  exact newPair so hT dv
theorem di_enum (hg : Gl X "enumerate") (hm : X.mg "enumerate" = none) (he : PE X e (tE X W f)) (hs1 : starEach [e] X.env = (false, eval e X.env) :: starEach [] X.env := by rfl) (hs : starEach [e] X.env = [(false, eval e X.env)] := by rfl) : PI X (.Tuple elts kk tpos) (.Call (.Name "enumerate" p) [e] [] pos) (tI X W (iEnum f)) := by
  refine PI.imp (PI.or (pi_enumT hg hm (pa_cons he pa_nil hs1) hs) (pi_enum hg hm (pa_cons he pa_nil hs1) hs)) fun σ H R q => ?_
  obtain ⟨r, t, S, env, rel, g⟩ := q
  unfold iEnum at g
  cases h : f env S with
  | bad => rw [h] at g; exact (show False from g).elim
  | exc c S1 =>
    rw [h, Out.bind_exc] at g
    refine .inl ⟨r, t, S, env, rel, ?_⟩
    rw [h]
    exact g
  | ok d S1 =>
    rw [h, Out.bind_ok] at g
    obtain ⟨ds, e1, g1⟩ := g.lift
    cases d with
    | tup es =>
      cases e1
      refine .inl ⟨r, t, S, env, rel, ?_⟩
      rw [h]
      intro H1 r1 ex so v dv
      cases dv with
      | tup h1 z => exact ⟨_, _, rfl, sqT_of h1, g1 H1 r1 ex so _ _ walk_enumT (by intro p hp; have ep := List.mem_singleton.mp hp; subst ep; exact .tup h1 z)⟩
    | lst es =>
      cases e1
      refine .inr ⟨r, t, S, env, rel, ?_⟩
      rw [h]
      intro H1 r1 ex so v dv
      cases dv with
      | lst h1 n m z => exact ⟨_, _, rfl, .inl (.inl h1), g1 H1 r1 ex so _ _ (walk_enumL (.inl rfl)) (by intro p hp; have ep := List.mem_singleton.mp hp; subst ep; exact .lst h1 n m z)⟩
    | fz es =>
      cases e1
      refine .inr ⟨r, t, S, env, rel, ?_⟩
      rw [h]
      intro H1 r1 ex so v dv
      cases dv with
      | fz h1 z => exact ⟨_, _, rfl, h1.sq, g1 H1 r1 ex so _ _ (walk_enumL (.inr rfl)) (by intro p hp; have ep := List.mem_singleton.mp hp; subst ep; exact .fz h1 z)⟩
    | _ => cases e1
end
end DL
end L2

set_option Elab.async false
set_option linter.all false
set_option maxRecDepth 100000
namespace L2
namespace DL
open PySem PySem.Spec PyProof.Rows

/-! ### texts that stand alone, what is never reached -/
def sNop : DS := fun env S => .ok (.nx, env) S
def sBad : DS := fun _ _ => .bad
section
variable {X : Cx} {E : XK} {pos pos' : Pos}
theorem ds_doc {x j} : PS X (.Expr (.Constant (.str x) j pos) pos') (tS X E sNop) := PS.imp ps_doc fun D σ H q => by
  obtain ⟨r, t, S, env, rel, g⟩ := q
  exact g.here rel.so σ rel
theorem ds_bad {st : Stmt} : PS X st (tS X E sBad) := ⟨fun pins s σ H D I q => by
  obtain ⟨_, _, _, _, _, g⟩ := q
  exact (show False from g).elim⟩
def dBad : DE := fun _ _ => .bad
theorem de_bad {W : WX} {e : Expr} : PE X e (tE X W dBad) := ⟨fun pins s σ H Q I q => by
  obtain ⟨_, _, _, _, _, g⟩ := q
  exact (show False from g).elim⟩
theorem dts_one {W : WX} {c : Expr} {tt : DB} (h : PT X c (tB' X W tt)) : PTs X [c] (tB' X W tt) := pts_one h
end

/-! ### constants of the module -/
def GlobIs (K : PySem.W.Frag) (mg : Str → Option Value) (x : Str) (d : D) : Prop := ∃ v u, mg x = some u ∧ RelV v u ∧ ∀ H r t, Den K H r t v d
section
variable {K : PySem.W.Frag} {h : Heap} {mg : Str → Option Value} {x : Str} {tk : Tok}
theorem glob_int {i : Int} (X : K.In h) (G : h.Ns mainGlobals mg) (e : PySem.W.nsIn K mainGlobals x = some (some (.int i tk))) : GlobIs K mg x (.int i) :=
  ⟨.int i, _, PySem.W.mg_of X G e, ⟨_, rfl⟩, fun _ _ _ => .int i⟩
theorem glob_str {z : Str} (X : K.In h) (G : h.Ns mainGlobals mg) (e : PySem.W.nsIn K mainGlobals x = some (some (.str z tk))) : GlobIs K mg x (.str z) :=
  ⟨.str z, _, PySem.W.mg_of X G e, ⟨_, rfl⟩, fun _ _ _ => .str z⟩
theorem de_globI {X : Cx} {W : WX} {d : D} {pos : Pos} (g : GlobIs X.K X.mg x d) (hg : Gl X x := by rfl) (hb : (x == ("__debug__" : Str)) = false := by decide) : PE X (.Name x pos) (tE X W (dC d)) := by
  obtain ⟨v, u, h1, h2, h3⟩ := g
  exact de_glob hg h1 h2 h3 hb
end

/-! ### in: flat things in a row of flat things; a sign in a text -/
def flD : D → Option V
  | .non => some .non
  | .bl b => some (.bl b)
  | .int i => some (.int i)
  | .str x => some (.str x)
  | _ => none
def flDL : List D → Option (List V)
  | [] => some []
  | d :: ds => match flD d, flDL ds with
    | some v, some vs => some (v :: vs)
    | _, _ => none
section
variable {K : PySem.W.Frag} {H : Hp} {r t : List Addr}
theorem flD_ok {d : D} {v u : V} (dv : Den K H r t v d) (h : flD d = some u) : v = u ∧ flatV u = true := by
  cases dv <;> first | (cases h; exact ⟨rfl, rfl⟩) | cases h
theorem flDL_ok : ∀ {ds : List D} {vs us : List V}, DenL K H r t vs ds → flDL ds = some us → vs = us ∧ us.all flatV = true
  | [], _, _, .nil, h => by cases h; exact ⟨rfl, rfl⟩
  | d :: ds, _, _, .cons h1 h2, h => by
    unfold flDL at h
    split at h
    · rename_i u us e1 e2
      cases h
      obtain ⟨a1, a2⟩ := flD_ok h1 e1
      obtain ⟨b1, b2⟩ := flDL_ok h2 e2
      subst a1 b1
      exact ⟨rfl, by rw [List.all_cons, a2, b2]; rfl⟩
    · cases h
end
def seqOf (S : Sto) : D → Option (List D)
  | .tup ds => some ds
  | d => listOf S d
def oInF (neg : Bool) : Sto → D → D → Option D := fun S x y => match flD x, seqOf S y with
  | some u, some ds => (flDL ds).map fun us => .bl (if neg then !inV u us else inV u us)
  | _, _ => none
def signOf (x : Str) : Option Nat := match x.cps.toList with
  | [c] => some c
  | _ => none
theorem signOf_ok {x : Str} {c : Nat} (h : signOf x = some c) : x = ⟨#[c]⟩ := by
  unfold signOf at h
  split at h
  · rename_i e
    cases h
    cases x with
    | mk a =>
      have e2 : a = #[c] := by
        have h3 : a.toList = [c] := e
        have := congrArg List.toArray h3
        simpa using this
      rw [e2]
  · cases h
def oInS (neg : Bool) : Sto → D → D → Option D := fun _ x y => match x, y with
  | .str a, .str z => (signOf a).map fun c => .bl (neg ^^ decide (c ∈ z.cps.toList))
  | _, _ => none
section
variable {X : Cx}
theorem seq_ok {K : PySem.W.Frag} {mg : Str → Option Value} {H : Hp} {r t : List Addr} {S : Sto} {d : D} {v : V} {ds : List D} (so : SOk K mg H r t S) (dv : Den K H r t v d) (h : seqOf S d = some ds) : ∃ a xs, v = .ref a ∧ (SqL K H a xs ∨ SqT K H a xs) ∧ DenL K H r t xs ds := by
  cases dv with
  | tup h1 z => cases h; exact ⟨_, _, rfl, .inr (sqT_of h1), z⟩
  | lst h1 n m z => obtain ⟨a, xs, e1, e2, e3⟩ := list_ok so (.lst h1 n m z) h; exact ⟨a, xs, e1, .inl e2, e3⟩
  | fz h1 z => obtain ⟨a, xs, e1, e2, e3⟩ := list_ok so (.fz h1 z) h; exact ⟨a, xs, e1, .inl e2, e3⟩
  | ref h1 => obtain ⟨a, xs, e1, e2, e3⟩ := list_ok so (.ref h1) h; exact ⟨a, xs, e1, .inl e2, e3⟩
  | _ => cases h
theorem od_inF' {neg : Bool} {r t : List Addr} {S : Sto} {H : Hp} {x y : D} {v u : V} {d : D} {Q : VK} (so : SOk X.K X.mg H r t S) (dx : Den X.K H r t v x) (dy : Den X.K H r t u y) (e : oInF neg S x y = some d)
    (q : ∀ w H', Ext r H r H' → SOk X.K X.mg H' r t S → Den X.K H' r t w d → Q w H') : rIn X.K neg v u H Q := by
  unfold oInF at e
  split at e
  · rename_i a ds e1 e2
    obtain ⟨us, e3, e4⟩ := Option.map_eq_some_iff.mp e
    subst e4
    obtain ⟨p, xs, ev, hs, z⟩ := seq_ok so dy e2
    obtain ⟨ex, fx⟩ := flD_ok dx e1
    obtain ⟨es, fs⟩ := flDL_ok z e3
    subst ex es
    exact ⟨p, xs, ev, hs, fx, fs, q _ _ (Ext.refl _ _) so (.bl _)⟩
  · cases e
theorem od_inF : OpD X (compareOp .In) (oInF false) := ⟨_, op_in_seq, fun r t S H x y v u d Q so dx dy e q => od_inF' so dx dy e q⟩
theorem od_notInF : OpD X (compareOp .NotIn) (oInF true) := ⟨_, op_notIn_seq, fun r t S H x y v u d Q so dx dy e q => od_inF' so dx dy e q⟩
theorem od_inS : OpD X (compareOp .In) (oInS false) := by
  refine ⟨_, op_in_sign, fun r t S H x y v u d Q so dx dy e q => ?_⟩
  unfold oInS at e
  split at e
  · rename_i a z
    obtain ⟨c, e1, e2⟩ := Option.map_eq_some_iff.mp e
    subst e2
    cases dx
    cases dy
    rw [signOf_ok e1]
    refine ⟨c, z, rfl, rfl, q _ _ (Ext.refl _ _) so ?_⟩
    rw [Bool.false_xor]
    exact .bl _
  · cases e
theorem od_notInS : OpD X (compareOp .NotIn) (oInS true) := by
  refine ⟨_, op_notIn_sign, fun r t S H x y v u d Q so dx dy e q => ?_⟩
  unfold oInS at e
  split at e
  · rename_i a z
    obtain ⟨c, e1, e2⟩ := Option.map_eq_some_iff.mp e
    subst e2
    cases dx
    cases dy
    rw [signOf_ok e1]
    refine ⟨c, z, rfl, rfl, q _ _ (Ext.refl _ _) so ?_⟩
    rw [Bool.true_xor]
    exact .bl _
  · cases e
def oIn (neg : Bool) : Sto → D → D → Option D := orO (oInF neg) (orO (oInD neg) (oInS neg))
theorem od_in (hu : X.A.units + 65 < cLine) : OpD X (compareOp .In) (oIn false) := od_inF.or ((od_inD hu).or od_inS)
theorem od_notIn (hu : X.A.units + 65 < cLine) : OpD X (compareOp .NotIn) (oIn true) := od_notInF.or ((od_notInD hu).or od_notInS)
end

/-! ### sorted -/
def sortI (ns : List Int) : List Int := ns.mergeSort fun a b => decide (a ≤ b)
theorem sortI_perm (ns : List Int) : (sortI ns).Perm ns := List.mergeSort_perm ..
theorem sortI_pair (ns : List Int) : (sortI ns).Pairwise (· ≤ ·) := by
  have h := List.pairwise_mergeSort (le := fun a b : Int => decide (a ≤ b)) (fun a b c h1 h2 => by simp only [decide_eq_true_eq] at *; omega) (fun a b => by simp only [Bool.or_eq_true, decide_eq_true_eq]; omega) ns
  exact h.imp fun h => of_decide_eq_true h
theorem sortI_only {ns ns' : List Int} (h : ns'.Perm ns) (hp : ns'.Pairwise (· ≤ ·)) : ns' = sortI ns :=
  List.Perm.eq_of_pairwise (fun a b _ _ h1 h2 => by omega) hp (sortI_pair ns) (h.trans (sortI_perm ns).symm)
def oSortI : Sto → List D → Option D := fun S ds => match ds with
  | [d] => ((listOf S d).bind intsOf).map fun ns => .lst ((sortI ns).map D.int)
  | _ => none
section
variable {X : Cx}
theorem cd_sortI : CallD X (.builtin "sorted") oSortI := by
  refine ⟨_, cr_sortedI, fun r t S H ds vs d Q so dv e q => ?_⟩
  unfold oSortI at e
  split at e
  · rename_i d0
    obtain ⟨ns, e1, e2⟩ := Option.map_eq_some_iff.mp e
    subst e2
    obtain ⟨es, e3, e4⟩ := Option.bind_eq_some_iff.mp e1
    cases dv with
    | cons d1 d2 =>
      cases d2
      obtain ⟨a, xs, ev, hs, z⟩ := list_ok so d1 e3
      rw [ints_eq e4] at z
      rw [z.ints] at hs
      refine ⟨a, ns, by rw [ev], hs, fun ns' p hp1 hp2 hp => ?_⟩
      rw [sortI_only hp1 hp2]
      exact newL so hp (denInts _) q
  · cases e
end
def intsT : D → Option (List Int)
  | .tup ds => intsOf ds
  | _ => none
def intsTL : List D → Option (List (List Int))
  | [] => some []
  | d :: ds => match intsT d, intsTL ds with
    | some n, some ns => some (n :: ns)
    | _, _ => none
def tupI (ns : List Int) : D := .tup (ns.map D.int)
theorem intsTL_eq : ∀ {ds : List D} {nss : List (List Int)}, intsTL ds = some nss → ds = nss.map tupI
  | [], _, h => by cases h; rfl
  | d :: ds, _, h => by
    unfold intsTL at h
    split at h
    · rename_i n ns e1 e2
      cases h
      rw [List.map_cons, ← intsTL_eq e2]
      cases d with
      | tup es => unfold tupI; rw [← ints_eq (show intsOf es = some n from e1)]
      | _ => cases e1
    · cases h
theorem intsOf_map : ∀ ns : List Int, intsOf (ns.map D.int) = some ns
  | [] => rfl
  | n :: ns => by
    rw [List.map_cons]
    unfold intsOf
    rw [intsOf_map ns]
    rfl
theorem intsTL_map : ∀ nss : List (List Int), intsTL (nss.map tupI) = some nss
  | [] => rfl
  | n :: ns => by
    show (match intsT (tupI n), intsTL (ns.map tupI) with | some n, some ns => some (n :: ns) | _, _ => none) = _
    rw [intsTL_map ns, show intsT (tupI n) = some n from intsOf_map n]
/-- tuples of so many small numbers -/
def BB : Int := 2 ^ 64
def okT (d : Nat) (ns : List Int) : Bool := decide (ns.length = d) && ns.all fun m => decide (0 ≤ m) && decide (m < BB)
theorem okT_iff {d : Nat} {ns : List Int} : okT d ns = true ↔ ns.length = d ∧ TS.Bd BB ns := by
  unfold okT TS.Bd
  rw [Bool.and_eq_true, decide_eq_true_eq, List.all_eq_true]
  simp only [Bool.and_eq_true, decide_eq_true_eq]
def sortT (nss : List (List Int)) : List (List Int) := nss.mergeSort fun a b => decide (TS.code BB a ≤ TS.code BB b)
theorem sortT_perm (nss : List (List Int)) : (sortT nss).Perm nss := List.mergeSort_perm ..
theorem sortT_pair (nss : List (List Int)) : (sortT nss).Pairwise fun a b => TS.code BB a ≤ TS.code BB b := by
  have h := List.pairwise_mergeSort (le := fun a b : List Int => decide (TS.code BB a ≤ TS.code BB b)) (fun a b c h1 h2 => by simp only [decide_eq_true_eq] at *; omega) (fun a b => by simp only [Bool.or_eq_true, decide_eq_true_eq]; omega) nss
  exact h.imp fun h => of_decide_eq_true h
theorem code_inj {B : Int} : ∀ {a b : List Int}, a.length = b.length → TS.Bd B a → TS.Bd B b → TS.code B a = TS.code B b → a = b
  | [], [], _, _, _, _ => rfl
  | [], _ :: _, h, _, _, _ => by cases h
  | _ :: _, [], h, _, _, _ => by cases h
  | x :: a, y :: b, h, ha, hb, e => by
    have hl : a.length = b.length := Nat.succ.inj h
    have exy : x = y := by
      rcases Int.lt_trichotomy x y with z | z | z
      · have := TS.code_lt hl ha.tail hb.tail z; omega
      · exact z
      · have := TS.code_lt hl.symm hb.tail ha.tail z; omega
    subst exy
    have e' : x * B ^ a.length + TS.code B a = x * B ^ b.length + TS.code B b := e
    rw [hl] at e'
    rw [code_inj hl ha.tail hb.tail (by omega)]
theorem sortT_only {d : Nat} {nss nss' : List (List Int)} (hd : ∀ a ∈ nss, okT d a = true) (h : nss'.Perm nss) (hp : nss'.Pairwise fun a b => TS.code BB a ≤ TS.code BB b) : nss' = sortT nss := by
  refine List.Perm.eq_of_pairwise (fun a b ha hb h1 h2 => ?_) hp (sortT_pair nss) (h.trans (sortT_perm nss).symm)
  obtain ⟨a1, a2⟩ := okT_iff.mp (hd a (h.mem_iff.mp ha))
  obtain ⟨b1, b2⟩ := okT_iff.mp (hd b ((sortT_perm nss).mem_iff.mp hb))
  exact code_inj (a1.trans b1.symm) a2 b2 (by omega)
def oSortT : Sto → List D → Option D := fun S ds => match ds with
  | [d] => ((listOf S d).bind intsTL).bind fun nss => if nss.length < 64 ∧ ((nss.headD []).length ≠ 0 ∧ nss.all (okT (nss.headD []).length) = true ∨ nss = []) then some (.lst ((sortT nss).map tupI)) else none
  | _ => none
/-- items that mean the same things, in another order -/
theorem perm_den {K : PySem.W.Frag} {H : Hp} {r t : List Addr} {xs ys : List V} (h : ys.Perm xs) : ∀ {ds : List D}, DenL K H r t xs ds → ∃ es, es.Perm ds ∧ DenL K H r t ys es := by
  induction h with
  | nil => intro ds z; exact ⟨_, .refl _, z⟩
  | cons x h ih => intro ds z; cases z with | cons a b => obtain ⟨es, p, q⟩ := ih b; exact ⟨_, p.cons _, .cons a q⟩
  | swap x y l => intro ds z; cases z with | cons a b => cases b with | cons b c => exact ⟨_, List.Perm.swap _ _ _, .cons b (.cons a c)⟩
  | trans h1 h2 ih1 ih2 => intro ds z; obtain ⟨es, p, q⟩ := ih2 z; obtain ⟨fs, p2, q2⟩ := ih1 q; exact ⟨fs, p2.trans p, q2⟩
theorem perm_tup {es : List D} {nss : List (List Int)} (h : es.Perm (nss.map tupI)) : ∃ nss' : List (List Int), es = nss'.map tupI ∧ nss'.Perm nss := by
  generalize hb : nss.map tupI = bs at h
  induction h generalizing nss with
  | nil =>
    cases nss with
    | nil => exact ⟨[], rfl, .refl _⟩
    | cons _ _ => cases hb
  | cons x h ih =>
    cases nss with
    | nil => cases hb
    | cons n ns =>
      cases hb
      obtain ⟨ms, e, p⟩ := ih rfl
      exact ⟨n :: ms, by rw [List.map_cons, e], p.cons _⟩
  | swap x y l =>
    match nss, hb with
    | a :: b :: ns, hb => cases hb; exact ⟨b :: a :: ns, rfl, List.Perm.swap _ _ _⟩
  | trans h1 h2 ih1 ih2 =>
    obtain ⟨ms, e, p⟩ := ih2 hb
    obtain ⟨ks, e2, p2⟩ := ih1 e.symm
    exact ⟨ks, e2, p2.trans p⟩
section
variable {X : Cx}
theorem cr_sortTs : CallR X (.builtin "sorted") (fun vs H Q => ∃ d : Nat, 1 ≤ d ∧ rSortU X.K d BB vs H Q) := by
  intro pins s σ H vs us Q I r h
  obtain ⟨d, hd, q⟩ := h
  exact cr_sortT hd pins s σ H vs us Q I r q
theorem denT_ints {K : PySem.W.Frag} {H : Hp} {r t : List Addr} {v : V} {ns : List Int} (dv : Den K H r t v (tupI ns)) : TupI K H v ns := by
  unfold tupI at dv
  cases dv with
  | tup h1 z =>
    rw [z.ints] at h1
    exact ⟨_, rfl, sqT_of h1⟩
theorem denL_mem {K : PySem.W.Frag} {H : Hp} {r t : List Addr} {vs : List V} {ds : List D} {v : V} (z : DenL K H r t vs ds) (h : v ∈ vs) : ∃ d ∈ ds, Den K H r t v d := by
  obtain ⟨i, hi⟩ := List.getElem?_of_mem h
  obtain ⟨d, h1, h2⟩ := z.getV hi
  exact ⟨d, List.mem_of_getElem? h1, h2⟩
theorem denT_pair {K : PySem.W.Frag} {H : Hp} {r t : List Addr} : ∀ {vs : List V} {nss : List (List Int)}, DenL K H r t vs (nss.map tupI) → vs.Pairwise (fun x y => ∀ n m, TupI K H x n → TupI K H y m → TS.code BB n ≤ TS.code BB m) → nss.Pairwise fun a b => TS.code BB a ≤ TS.code BB b
  | [], [], _, _ => .nil
  | v :: vs, n :: nss, .cons h1 h2, .cons k1 k2 => by
    refine .cons (fun m hm => ?_) (denT_pair h2 k2)
    obtain ⟨i, hi⟩ := List.getElem?_of_mem hm
    obtain ⟨u, hu, du⟩ := h2.get (i := i) (d := tupI m) (by rw [List.getElem?_map, hi]; rfl)
    exact k1 u (List.mem_of_getElem? hu) n m (denT_ints h1) (denT_ints du)
theorem cd_sortT : CallD X (.builtin "sorted") oSortT := by
  refine ⟨_, cr_sortTs, fun r t S H ds vs d Q so dv e q => ?_⟩
  unfold oSortT at e
  split at e
  · rename_i d0
    obtain ⟨nss, e1, e2⟩ := Option.bind_eq_some_iff.mp e
    obtain ⟨es, e3, e4⟩ := Option.bind_eq_some_iff.mp e1
    split at e2
    · rename_i hc
      cases e2
      cases dv with
      | cons d1 d2 =>
        cases d2
        obtain ⟨a, xs, ev, hs, z⟩ := list_ok so d1 e3
        rw [intsTL_eq e4] at z
        have hl : xs.length = nss.length := by rw [z.length, List.length_map]
        obtain ⟨dd, hd1, hd⟩ : ∃ dd : Nat, 1 ≤ dd ∧ ∀ a ∈ nss, okT dd a = true := by
          rcases hc.2 with h | h
          · exact ⟨(nss.headD []).length, Nat.pos_of_ne_zero h.1, fun a ha => List.all_eq_true.mp h.2 a ha⟩
          · rw [h]; exact ⟨1, Nat.le_refl _, fun a ha => by cases ha⟩
        refine ⟨dd, hd1, a, xs, by rw [ev], hs, by rw [hl]; exact hc.1, fun x hx => ?_, fun ys p hp1 hp2 hp => ?_⟩
        · obtain ⟨d2, hd2, dx⟩ := denL_mem z hx
          obtain ⟨n, hn, en⟩ := List.mem_map.mp hd2
          subst en
          obtain ⟨h1, h2⟩ := okT_iff.mp (hd n hn)
          exact ⟨n, denT_ints dx, h1, h2⟩
        · obtain ⟨fs, hf, zf⟩ := perm_den hp1 z
          obtain ⟨nss', ef, hp3⟩ := perm_tup hf
          subst ef
          rw [sortT_only hd hp3 (denT_pair zf hp2)] at zf
          exact newL so hp zf q
    · cases e2
  · cases e
def oSorted : Sto → List D → Option D := orC oSortI oSortT
theorem cd_sorted : CallD X (.builtin "sorted") oSorted := cd_sortI.or cd_sortT
end

/-! ### new lists that will be changed -/
structure CallN (X : Cx) (f : Value) (o : Sto → List D → Option (List D)) : Prop where
  ex : ∃ rr : List V → Hp → VK → Prop, CallR X f rr ∧ ∀ r t S H ds vs es (Q : VK), SOk X.K X.mg H r t S → DenL X.K H r t vs ds → o S ds = some es →
    (∀ p xs, H p = none → DenL X.K H r t xs es → Q (.ref p) (upd H p (.lst xs))) → rr vs H Q
def dCallN (o : Sto → List D → Option (List D)) (fs : DA) : DE := fun env S => (fs env S).bind fun ds S1 => match o S1 ds with
  | some es => .ok (.ref S1.length) (S1 ++ [.lst es])
  | none => .bad
section
variable {X : Cx} {W : WX} {e : Expr} {es : List Expr} {fs : DA} {pos : Pos}
theorem de_callTyN {T : String} {x : Str} {p : Pos} {o : Sto → List D → Option (List D)} (hc : CallN X (.type T) o) (hg : Gl X x) (hm : X.mg x = none) (hv : bootBuiltins x = some (.type T)) (ha : PA X (e :: es) (tA X W fs)) (hn : x ≠ "__name__" := by decide) (hdb : (x == ("__debug__" : Str)) = false := by decide)
    (he : starEach (e :: es) X.env = (false, eval e X.env) :: starEach es X.env := by rfl) (hpl : (backTo pos (starEach es X.env)).any (·.1) = false := by rfl) : PE X (.Call (.Name x p) (e :: es) [] pos) (tE X W (dCallN o fs)) := by
  obtain ⟨rr, h, k⟩ := hc
  refine PE.imp (pe_callTy h hg hm hv ha hn hdb he hpl) fun σ H Q q => ?_
  obtain ⟨r, t, S, env, rel, g⟩ := q
  refine ⟨r, t, S, env, rel, g.bind.mono fun ds S1 r1 H1 ex so g1 vs dvs => ?_⟩
  split at g1
  · rename_i es1 e1
    refine k r1 t S1 H1 ds vs es1 Q so dvs e1 fun p xs hp z => ?_
    obtain ⟨so2, d2⟩ := growL so hp z
    exact g1 _ _ (Ext.grow hp) so2 _ d2
  · exact (show False from g1).elim
def oListN : Sto → List D → Option (List D) := fun S ds => match ds with
  | [d] => seqOf S d
  | _ => none
theorem cn_list : CallN X (.type "list") oListN := by
  refine ⟨_, call_list_of, fun r t S H ds vs es Q so dv e q => ?_⟩
  unfold oListN at e
  split at e
  · cases dv with
    | cons d1 d2 =>
      cases d2
      obtain ⟨a, xs, ev, hs, z⟩ := seq_ok so d1 e
      exact ⟨a, xs, by rw [ev], hs, fun l hl => q l xs hl z⟩
  · cases e
/-- xs + ys -/
def dAddN (fa fb : DE) : DE := fun env S => (fa env S).bind fun x S1 => (fb env S1).bind fun y S2 => match lstOf S2 x, lstOf S2 y with
  | some a, some b => if a.length + b.length ≤ sizeLine then .ok (.ref S2.length) (S2 ++ [.lst (a ++ b)]) else .bad
  | _, _ => .bad
theorem de_addN {a b : Expr} {fa fb : DE} (ha : PE X a (tE X W fa)) (hb : PE X b (tE X W fb)) : PE X (.BinOp a .Add b pos) (tE X W (dAddN fa fb)) := by
  refine PE.imp (pe_op op_cat ha hb) fun σ H Q q => tE_two q fun r t S env x y v u H' rel dx dy g => ?_
  split at g
  · rename_i as bs ea eb
    obtain ⟨p, xs, rfl, h1, z1⟩ := lst_ok rel.so dx ea
    obtain ⟨p2, ys, rfl, h2, z2⟩ := lst_ok rel.so dy eb
    obtain ⟨hl, g2⟩ := g.ite
    refine ⟨p, p2, xs, ys, rfl, rfl, h1, h2, by rw [z1.length, z2.length]; exact hl, fun n hn => ?_⟩
    obtain ⟨so2, d2⟩ := growL rel.so hn (z1.append z2)
    exact g2 _ _ (Ext.grow hn) so2 _ d2
  · exact (show False from g).elim
end
end DL
end L2

set_option Elab.async false
set_option linter.all false
set_option maxRecDepth 100000
namespace L2
namespace DL
open PySem PySem.Spec PyProof.Rows

/-! ### what an outcome comes to, by what is wanted of it -/
structure Wp {A : Type} (m : Out A) (P : A → Sto → Prop) : Prop where
  get : ∃ a S, m = .ok a S ∧ P a S
section
variable {A B : Type} {m : Out A} {P Q : A → Sto → Prop} {S : Sto}
theorem wp_ok (a : A) (S : Sto) (P : A → Sto → Prop) : Wp (.ok a S) P = P a S := propext ⟨fun h => by obtain ⟨b, T, e, p⟩ := h.get; cases e; exact p, fun p => ⟨a, S, rfl, p⟩⟩
theorem wp_no {m : Out A} {P : A → Sto → Prop} (h : ∀ a S, m ≠ .ok a S) : Wp m P = False := propext ⟨fun w => by obtain ⟨a, S, e, _⟩ := w.get; exact h a S e, fun f => f.elim⟩
theorem wp_bind (m : Out A) (k : A → Sto → Out B) (P : B → Sto → Prop) : Wp (m.bind k) P = Wp m fun a S => Wp (k a S) P := by
  cases m with
  | ok a S => rw [Out.bind_ok, wp_ok]
  | exc c S => rw [wp_no (by intro a S h; cases h), wp_no (by intro a S h; cases h)]
  | bad => rw [wp_no (by intro a S h; cases h), wp_no (by intro a S h; cases h)]
theorem wp_noexc (m : Out A) (P : A → Sto → Prop) : Wp (noexc m) P = Wp m P := by
  cases m with
  | ok a S => rfl
  | exc c S => rw [wp_no (by intro a S h; cases h), wp_no (by intro a S h; cases h)]
  | bad => rfl
theorem Wp.mono (h : Wp m P) (k : ∀ a S, P a S → Q a S) : Wp m Q := by
  obtain ⟨a, S, e, p⟩ := h.get
  exact ⟨a, S, e, k a S p⟩
theorem Wp.of {a : A} (h : m = .ok a S) (p : P a S) : Wp m P := ⟨a, S, h, p⟩
theorem wp_lift {o : Option A} {a : A} (h : o = some a) (p : P a S) : Wp (lift o S) P := ⟨a, S, by rw [h]; rfl, p⟩
theorem wp_if {c : Prop} [Decidable c] {x y : Out A} (h1 : c → Wp x P) (h2 : ¬ c → Wp y P) : Wp (if c then x else y) P := by
  by_cases h : c
  · rw [if_pos h]; exact h1 h
  · rw [if_neg h]; exact h2 h
theorem wp_dec {c : Prop} [Decidable c] {x y : Out A} (h1 : c → Wp x P) (h2 : ¬ c → Wp y P) : Wp (if decide c = true then x else y) P := by
  by_cases h : c
  · rw [if_pos (decide_eq_true h)]; exact h1 h
  · rw [if_neg (by rw [decide_eq_false h]; exact Bool.false_ne_true)]; exact h2 h
theorem wp_ndec {c : Prop} [Decidable c] {x y : Out A} (h1 : ¬ c → Wp x P) (h2 : c → Wp y P) : Wp (if (!decide c) = true then x else y) P := by
  by_cases h : c
  · rw [if_neg (by rw [decide_eq_true h]; exact Bool.false_ne_true)]; exact h2 h
  · rw [if_pos (by rw [decide_eq_false h]; rfl)]; exact h1 h
end
/-- a comprehension, item by item -/
theorem compGo_wp {g : DG} {env : Ev} {tt : DB} {te : DE} {P : List D → Sto → Prop} (I : List D → List D → Sto → Prop) : ∀ (ds acc : List D) (S : Sto), I ds acc S →
    (∀ d rest acc S, I (d :: rest) acc S → ∃ env', g env d = some env' ∧ Wp (tt env' S) fun b S1 => if b = true then Wp (te env' S1) fun y S2 => acc.length < sizeLine ∧ I rest (acc ++ [y]) S2 else I rest acc S1) →
    (∀ acc S, I [] acc S → P acc S) → Wp (compGo g env tt te ds acc S) P
  | [], acc, S, h, _, hf => Wp.of rfl (hf acc S h)
  | d :: ds, acc, S, h, hs, hf => by
    obtain ⟨env', e1, w⟩ := hs d ds acc S h
    unfold compGo
    rw [e1]
    dsimp only
    rw [wp_bind, wp_noexc]
    refine w.mono fun b S1 q => ?_
    cases b with
    | false => exact compGo_wp I ds acc S1 q hs hf
    | true =>
      rw [if_pos rfl, wp_bind, wp_noexc]
      refine Wp.mono (if_pos rfl ▸ q) fun y S2 q2 => ?_
      rw [if_pos q2.1]
      exact compGo_wp I ds (acc ++ [y]) S2 q2.2 hs hf
/-- .. each item to one that stands so to it -/
inductive All2 {A B : Type} (R : A → B → Prop) : List A → List B → Prop
  | nil : All2 R [] []
  | cons {a : A} {b : B} {as : List A} {bs : List B} : R a b → All2 R as bs → All2 R (a :: as) (b :: bs)
theorem All2.length {A B : Type} {R : A → B → Prop} : ∀ {as : List A} {bs : List B}, All2 R as bs → as.length = bs.length
  | _, _, .nil => rfl
  | _, _, .cons _ h => congrArg Nat.succ h.length
theorem All2.snoc {A B : Type} {R : A → B → Prop} {a : A} {b : B} (h : R a b) : ∀ {as : List A} {bs : List B}, All2 R as bs → All2 R (as ++ [a]) (bs ++ [b])
  | _, _, .nil => .cons h .nil
  | _, _, .cons h1 h2 => .cons h1 (h2.snoc h)
theorem All2.mono {A B : Type} {R R' : A → B → Prop} (k : ∀ a b, R a b → R' a b) : ∀ {as : List A} {bs : List B}, All2 R as bs → All2 R' as bs
  | _, _, .nil => .nil
  | _, _, .cons h1 h2 => .cons (k _ _ h1) (h2.mono k)
theorem All2.right {A B : Type} {R : A → B → Prop} {p : B → Prop} (k : ∀ a b, R a b → p b) : ∀ {as : List A} {bs : List B}, All2 R as bs → ∀ b ∈ bs, p b
  | _, _, .nil, _, h => by cases h
  | _, _, .cons h1 h2, b, h => by
    rcases List.mem_cons.mp h with e | e
    · rw [e]; exact k _ _ h1
    · exact h2.right k b e
theorem compGo_each {g : DG} {env : Ev} {te : DE} {P : List D → Sto → Prop} (I : Sto → Prop) (R : D → D → Prop) {ds : List D} {S : Sto} (hI : I S) (hl : ds.length ≤ sizeLine)
    (hs : ∀ d ∈ ds, ∀ S, I S → ∃ env', g env d = some env' ∧ Wp (te env' S) fun y S' => I S' ∧ R d y) (hf : ∀ ys S', All2 R ds ys → I S' → P ys S') : Wp (compGo g env bYes te ds [] S) P := by
  refine compGo_wp (fun rest acc S => ∃ done, ds = done ++ rest ∧ All2 R done acc ∧ I S) ds [] S ⟨[], rfl, .nil, hI⟩ (fun d rest acc S h => ?_) fun acc S h => ?_
  · obtain ⟨done, e, a, i⟩ := h
    obtain ⟨env', e1, w⟩ := hs d (by rw [e]; exact List.mem_append_right _ List.mem_cons_self) S i
    refine ⟨env', e1, ?_⟩
    show Wp (Out.ok true S) _
    rw [wp_ok, if_pos rfl]
    refine w.mono fun y S' q => ⟨?_, done ++ [d], by rw [e, List.append_assoc]; rfl, a.snoc q.2, q.1⟩
    rw [e, List.length_append, List.length_cons, a.length] at hl
    omega
  · obtain ⟨done, e, a, i⟩ := h
    rw [List.append_nil] at e
    subst e
    exact hf acc S a i
/-- a pure one with a test -/
theorem compGo_filter {g : DG} {env : Ev} {tt : DB} {te : DE} {P : List D → Sto → Prop} (p : D → Bool) (f : D → D) {ds : List D} {S : Sto} (hl : ds.length ≤ sizeLine)
    (hs : ∀ d ∈ ds, ∃ env', g env d = some env' ∧ Wp (tt env' S) (fun b S' => S' = S ∧ b = p d) ∧ (p d = true → Wp (te env' S) fun y S' => S' = S ∧ y = f d)) (hf : P ((ds.filter p).map f) S) : Wp (compGo g env tt te ds [] S) P := by
  refine compGo_wp (fun rest acc S' => ∃ done, ds = done ++ rest ∧ S' = S ∧ acc = (done.filter p).map f) ds [] S ⟨[], rfl, rfl, rfl⟩ (fun d rest acc S' h => ?_) fun acc S' h => ?_
  · obtain ⟨done, e, eS, a⟩ := h
    subst eS
    obtain ⟨env', e1, w, w2⟩ := hs d (by rw [e]; exact List.mem_append_right _ List.mem_cons_self)
    refine ⟨env', e1, w.mono fun b S1 q => ?_⟩
    obtain ⟨eS, eb⟩ := q
    subst eS
    cases hb : p d with
    | true =>
      rw [eb, hb, if_pos rfl]
      refine (w2 hb).mono fun y S2 q2 => ⟨?_, done ++ [d], by rw [e, List.append_assoc]; rfl, q2.1, ?_⟩
      · rw [e, List.length_append, List.length_cons] at hl
        have := List.length_filter_le p done
        rw [a, List.length_map]
        omega
      · rw [q2.2, a, List.filter_append, List.map_append, List.filter_cons, if_pos hb]; rfl
    | false =>
      rw [eb, hb, if_neg Bool.false_ne_true]
      refine ⟨done ++ [d], by rw [e, List.append_assoc]; rfl, rfl, ?_⟩
      rw [a, List.filter_append, List.map_append, List.filter_cons, if_neg (by rw [hb]; exact Bool.false_ne_true)]
      simp
  · obtain ⟨done, e, eS, a⟩ := h
    rw [List.append_nil] at e
    subst e eS a
    exact hf
theorem compGo_pure {g : DG} {env : Ev} {te : DE} {P : List D → Sto → Prop} (f : D → D) {ds : List D} {S : Sto} (hl : ds.length ≤ sizeLine)
    (hs : ∀ d ∈ ds, ∃ env', g env d = some env' ∧ Wp (te env' S) fun y S' => S' = S ∧ y = f d) (hf : P (ds.map f) S) : Wp (compGo g env bYes te ds [] S) P := by
  refine compGo_filter (fun _ => true) f hl (fun d hd => ?_) ?_
  · obtain ⟨env', e1, w⟩ := hs d hd
    exact ⟨env', e1, Wp.of rfl ⟨rfl, rfl⟩, fun _ => w⟩
  · rw [List.filter_eq_self.mpr (fun _ _ => rfl)]
    exact hf
/-- a loop, by what stands ahead of each turn -/
theorem forGo_wp {g : DG} {b : DS} {P : Fl × Ev → Sto → Prop} (I : List D → Ev → Sto → Prop) : ∀ (ds : List D) (env : Ev) (S : Sto), I ds env S →
    (∀ d rest env S, I (d :: rest) env S → ∃ env1, g env d = some env1 ∧ Wp (b env1 S) fun p S' => match p.1 with | .nx => I rest p.2 S' | .ct => I rest p.2 S' | .bk => P (.nx, p.2) S' | .rt v => P (.rt v, p.2) S') →
    (∀ env S, I [] env S → P (.nx, env) S) → Wp (forGo g b ds env S) P
  | [], env, S, h, _, hf => Wp.of rfl (hf env S h)
  | d :: ds, env, S, h, hs, hf => by
    obtain ⟨env1, e1, w⟩ := hs d ds env S h
    unfold forGo
    rw [e1]
    dsimp only
    rw [wp_bind]
    refine w.mono fun p S' q => ?_
    obtain ⟨fl, env2⟩ := p
    cases fl with
    | nx => exact forGo_wp I ds env2 S' q hs hf
    | ct => exact forGo_wp I ds env2 S' q hs hf
    | bk => exact Wp.of rfl q
    | rt v => exact Wp.of rfl q
/-- .. as above, the items known each by itself -/
theorem forGo_all {g : DG} {b : DS} {P : Fl × Ev → Sto → Prop} (I : Ev → Sto → Prop) {ds : List D} {env : Ev} {S : Sto} (h : I env S)
    (hs : ∀ d ∈ ds, ∀ env S, I env S → ∃ env1, g env d = some env1 ∧ Wp (b env1 S) fun p S' => match p.1 with | .nx => I p.2 S' | .ct => I p.2 S' | .bk => P (.nx, p.2) S' | .rt v => P (.rt v, p.2) S')
    (hf : ∀ env S, I env S → P (.nx, env) S) : Wp (forGo g b ds env S) P := by
  refine forGo_wp (fun rest env S => (∃ done, ds = done ++ rest) ∧ I env S) ds env S ⟨⟨[], rfl⟩, h⟩ (fun d rest env S q => ?_) fun env S q => hf env S q.2
  obtain ⟨⟨done, e⟩, i⟩ := q
  obtain ⟨env1, e1, w⟩ := hs d (by rw [e]; exact List.mem_append_right _ List.mem_cons_self) env S i
  refine ⟨env1, e1, w.mono fun p S' z => ?_⟩
  have nx : ∃ done, ds = done ++ rest := ⟨done ++ [d], by rw [e, List.append_assoc]; rfl⟩
  obtain ⟨fl, env2⟩ := p
  cases fl with
  | nx => exact ⟨nx, z⟩
  | ct => exact ⟨nx, z⟩
  | bk => exact z
  | rt v => exact z
/-- while, by what falls -/
theorem whGo_wp {c : DB} {b : DS} {P : Fl × Ev → Sto → Prop} (I : Nat → Ev → Sto → Prop) : ∀ (n m : Nat) (env : Ev) (S : Sto), m < n → I m env S →
    (∀ m env S, I m env S → Wp (c env S) fun k S1 => if k = true then Wp (b env S1) fun p S' => match p.1 with | .nx => ∃ j, j < m ∧ I j p.2 S' | .ct => ∃ j, j < m ∧ I j p.2 S' | .bk => P (.nx, p.2) S' | .rt v => P (.rt v, p.2) S' else P (.nx, env) S1) →
    Wp (whGo c b n env S) P
  | 0, m, env, S, hl, _, _ => by omega
  | n + 1, m, env, S, hl, h, hs => by
    unfold whGo
    rw [wp_bind]
    refine (hs m env S h).mono fun k S1 q => ?_
    cases k with
    | false => exact Wp.of rfl q
    | true =>
      rw [if_pos rfl] at q ⊢
      rw [wp_bind]
      refine q.mono fun p S' z => ?_
      obtain ⟨fl, env2⟩ := p
      cases fl with
      | nx => obtain ⟨j, hj, i⟩ := z; exact whGo_wp I n j env2 S' (by omega) i hs
      | ct => obtain ⟨j, hj, i⟩ := z; exact whGo_wp I n j env2 S' (by omega) i hs
      | bk => exact Wp.of rfl z
      | rt v => exact Wp.of rfl z
theorem wp_append {fo fa : DE} {env : Ev} {S S1 : Sto} {n : Nat} {ds : List D} {P : D → Sto → Prop} (h1 : fo env S = .ok (.ref n) S1) (hl : S1[n]? = some (.lst ds)) (h2 : Wp (fa env S1) fun y S2 => ∃ es, S2[n]? = some (.lst es) ∧ es.length < sizeLine ∧ P .non (S2.set n (.lst (es ++ [y])))) : Wp (dAppend fo fa env S) P := by
  obtain ⟨y, S2, e, es, k1, k2, k3⟩ := h2.get
  exact Wp.of (append_ref h1 hl e k1 k2) k3

/-! ### step by step: what is wanted behind each step, without a binder in sight -/
section
variable {A B : Type} {X : Cx} {W : WX} {env : Ev} {S : Sto} {x y d : D} {ds : List D} {P : D → Sto → Prop} {PB : Bool → Sto → Prop} {PA : List D → Sto → Prop} {PF : Fl × Ev → Sto → Prop} {PO : Option Int → Sto → Prop} {fa fb fc fe fo fi : DE} {ta tb tc tt : DB} {fs : DA} {f g b : DS} {gg : DG} {it : DI} {fl : Fl} {i n : Nat}
theorem wps {A : Type} (a : A) (S : Sto) (Q : A → Sto → Prop) : Wp (lift (some a) S) Q = Q a S := by first | rfl | exact wp_ok _ _ _
theorem w_C : Wp (dC d env S) P = P d S := by first | rfl | exact wp_ok _ _ _
def kVar (o : Option (Option D)) (P : D → Sto → Prop) (S : Sto) : Prop := match o with | some (some d) => P d S | _ => False
theorem w_Var : Wp (dVar i env S) P = kVar env[i]? P S := by
  unfold dVar kVar
  cases env[i]? with
  | none => exact wp_no (by intro a S h; cases h)
  | some o =>
    cases o with
    | none => exact wp_no (by intro a S h; cases h)
    | some d => exact wp_ok _ _ _
theorem k_Var : kVar (some (some d)) P S = P d S := by first | rfl | exact wp_ok _ _ _
def kBin1 (o : Sto → D → D → Option D) (fb : DE) (env : Ev) (P : D → Sto → Prop) (x : D) (S : Sto) : Prop := Wp (fb env S) fun y S2 => Wp (lift (o S2 x y) S2) P
def kBin2 (o : Sto → D → D → Option D) (P : D → Sto → Prop) (x y : D) (S : Sto) : Prop := Wp (lift (o S x y) S) P
theorem w_Bin {o} : Wp (dBin o fa fb env S) P = Wp (fa env S) (kBin1 o fb env P) := by unfold dBin; simp only [wp_bind, wp_ok]; rfl
theorem k_Bin1 {o} : kBin1 o fb env P x S = Wp (fb env S) (kBin2 o P x) := by first | rfl | exact wp_ok _ _ _
theorem k_Bin2 {o} : kBin2 o P x y S = Wp (lift (o S x y) S) P := by first | rfl | exact wp_ok _ _ _
def kB (PB : Bool → Sto → Prop) (x : D) (S : Sto) : Prop := Wp (lift (asB x) S) PB
theorem k_B {c : Bool} : kB PB (.bl c) S = PB c S := by first | rfl | exact wp_ok _ _ _
theorem w_Tst : Wp (dTst fa env S) PB = Wp (fa env S) (kB PB) := by unfold dTst; simp only [wp_bind, wp_ok]; rfl
def kCh1 (o o' : Sto → D → D → Option D) (fb fc : DE) (env : Ev) (P : D → Sto → Prop) (x : D) (S : Sto) : Prop := Wp (fb env S) fun y S2 => Wp (lift (o S2 x y) S2) fun z S3 => Wp (lift (asB z) S3) fun k S4 => Wp (if k = true then (fc env S4).bind fun w S5 => lift (o' S5 y w) S5 else .ok (.bl false) S4) P
def kCh2 (o o' : Sto → D → D → Option D) (fc : DE) (env : Ev) (P : D → Sto → Prop) (x y : D) (S : Sto) : Prop := Wp (lift (o S x y) S) fun z S3 => Wp (lift (asB z) S3) fun k S4 => Wp (if k = true then (fc env S4).bind fun w S5 => lift (o' S5 y w) S5 else .ok (.bl false) S4) P
def kCh3 (o' : Sto → D → D → Option D) (fc : DE) (env : Ev) (P : D → Sto → Prop) (y : D) (k : Bool) (S : Sto) : Prop := Wp (if k = true then (fc env S).bind fun w S5 => lift (o' S5 y w) S5 else .ok (.bl false) S) P
def kCh4 (o' : Sto → D → D → Option D) (P : D → Sto → Prop) (y w : D) (S : Sto) : Prop := Wp (lift (o' S y w) S) P
theorem w_Chain {o o'} : Wp (dChain o o' fa fb fc env S) P = Wp (fa env S) (kCh1 o o' fb fc env P) := by unfold dChain; simp only [wp_bind, wp_ok]; rfl
theorem k_Ch1 {o o'} : kCh1 o o' fb fc env P x S = Wp (fb env S) (kCh2 o o' fc env P x) := by first | rfl | exact wp_ok _ _ _
theorem k_Ch2 {o o'} : kCh2 o o' fc env P x y S = Wp (lift (o S x y) S) (kB (kCh3 o' fc env P y)) := by first | rfl | exact wp_ok _ _ _
theorem k_Ch3t {o'} : kCh3 o' fc env P y true S = Wp (fc env S) (kCh4 o' P y) := by unfold kCh3; rw [if_pos rfl, wp_bind]; rfl
theorem k_Ch3f {o'} : kCh3 o' fc env P y false S = P (.bl false) S := by first | rfl | exact wp_ok _ _ _
theorem k_Ch3d {o'} {c : Prop} [Decidable c] (h1 : c → Wp (fc env S) (kCh4 o' P y)) (h2 : ¬ c → P (.bl false) S) : kCh3 o' fc env P y (decide c) S := by
  by_cases h : c
  · rw [decide_eq_true h, k_Ch3t]; exact h1 h
  · rw [decide_eq_false h, k_Ch3f]; exact h2 h
theorem k_Ch4 {o'} {w : D} : kCh4 o' P y w S = Wp (lift (o' S y w) S) P := by first | rfl | exact wp_ok _ _ _
def kAnd (fb : DE) (env : Ev) (P : D → Sto → Prop) (k : Bool) (S : Sto) : Prop := Wp (if k = true then fb env S else .ok (.bl false) S) P
def kOr (fb : DE) (env : Ev) (P : D → Sto → Prop) (k : Bool) (S : Sto) : Prop := Wp (if k = true then .ok (.bl true) S else fb env S) P
def kNot (P : D → Sto → Prop) (k : Bool) (S : Sto) : Prop := P (.bl (!k)) S
theorem w_And : Wp (dAnd fa fb env S) P = Wp (fa env S) (kB (kAnd fb env P)) := by unfold dAnd; simp only [wp_bind, wp_ok]; rfl
theorem w_Or : Wp (dOr fa fb env S) P = Wp (fa env S) (kB (kOr fb env P)) := by unfold dOr; simp only [wp_bind, wp_ok]; rfl
theorem w_Not : Wp (dNot fa env S) P = Wp (fa env S) (kB (kNot P)) := by unfold dNot; simp only [wp_bind, wp_ok]; rfl
theorem k_Andt : kAnd fb env P true S = Wp (fb env S) P := by first | rfl | exact wp_ok _ _ _
theorem k_Andf : kAnd fb env P false S = P (.bl false) S := by first | rfl | exact wp_ok _ _ _
theorem k_Ort : kOr fb env P true S = P (.bl true) S := by first | rfl | exact wp_ok _ _ _
theorem k_Orf : kOr fb env P false S = Wp (fb env S) P := by first | rfl | exact wp_ok _ _ _
theorem k_Not {c : Bool} : kNot P c S = P (.bl (!c)) S := by first | rfl | exact wp_ok _ _ _
theorem k_Andc {c : Bool} (h1 : c = true → Wp (fb env S) P) (h2 : c = false → P (.bl false) S) : kAnd fb env P c S := by
  cases c with
  | true => exact h1 rfl
  | false => exact Wp.of rfl (h2 rfl)
theorem k_Orc {c : Bool} (h1 : c = true → P (.bl true) S) (h2 : c = false → Wp (fb env S) P) : kOr fb env P c S := by
  cases c with
  | true => exact Wp.of rfl (h1 rfl)
  | false => exact h2 rfl
def kbAnd (tb : DB) (env : Ev) (P : Bool → Sto → Prop) (k : Bool) (S : Sto) : Prop := Wp (if k = true then tb env S else .ok false S) P
def kbOr (tb : DB) (env : Ev) (P : Bool → Sto → Prop) (k : Bool) (S : Sto) : Prop := Wp (if k = true then .ok true S else tb env S) P
def kbNot (P : Bool → Sto → Prop) (k : Bool) (S : Sto) : Prop := P (!k) S
theorem w_bAnd : Wp (bAnd ta tb env S) PB = Wp (ta env S) (kbAnd tb env PB) := by unfold bAnd; simp only [wp_bind, wp_ok]; rfl
theorem w_bOr : Wp (bOr ta tb env S) PB = Wp (ta env S) (kbOr tb env PB) := by unfold bOr; simp only [wp_bind, wp_ok]; rfl
theorem w_bNot : Wp (bNot ta env S) PB = Wp (ta env S) (kbNot PB) := by unfold bNot; simp only [wp_bind, wp_ok]; rfl
theorem w_bYes : Wp (bYes env S) PB = PB true S := by first | rfl | exact wp_ok _ _ _
theorem k_bAndt : kbAnd tb env PB true S = Wp (tb env S) PB := by first | rfl | exact wp_ok _ _ _
theorem k_bAndf : kbAnd tb env PB false S = PB false S := by first | rfl | exact wp_ok _ _ _
theorem k_bOrt : kbOr tb env PB true S = PB true S := by first | rfl | exact wp_ok _ _ _
theorem k_bOrf : kbOr tb env PB false S = Wp (tb env S) PB := by first | rfl | exact wp_ok _ _ _
theorem k_bNot {c : Bool} : kbNot PB c S = PB (!c) S := by first | rfl | exact wp_ok _ _ _
theorem k_bAndc {c : Bool} (h1 : c = true → Wp (tb env S) PB) (h2 : c = false → PB false S) : kbAnd tb env PB c S := by
  cases c with
  | true => exact h1 rfl
  | false => exact Wp.of rfl (h2 rfl)
theorem k_bOrc {c : Bool} (h1 : c = true → PB true S) (h2 : c = false → Wp (tb env S) PB) : kbOr tb env PB c S := by
  cases c with
  | true => exact Wp.of rfl (h1 rfl)
  | false => exact h2 rfl
def kdIf (fa fb : DE) (env : Ev) (P : D → Sto → Prop) (k : Bool) (S : Sto) : Prop := Wp (if k = true then fa env S else fb env S) P
theorem w_dIf : Wp (dIf tc fa fb env S) P = Wp (tc env S) (kdIf fa fb env P) := by unfold dIf; simp only [wp_bind, wp_ok]; rfl
theorem k_dIft : kdIf fa fb env P true S = Wp (fa env S) P := by first | rfl | exact wp_ok _ _ _
theorem k_dIff : kdIf fa fb env P false S = Wp (fb env S) P := by first | rfl | exact wp_ok _ _ _
theorem k_dIfc {c : Bool} (h1 : c = true → Wp (fa env S) P) (h2 : c = false → Wp (fb env S) P) : kdIf fa fb env P c S := by
  cases c with
  | true => exact h1 rfl
  | false => exact h2 rfl
theorem w_aNil : Wp (aNil env S) PA = PA [] S := by first | rfl | exact wp_ok _ _ _
def kCons1 (fs : DA) (env : Ev) (P : List D → Sto → Prop) (d : D) (S : Sto) : Prop := Wp (fs env S) fun ds S2 => P (d :: ds) S2
def kCons2 (P : List D → Sto → Prop) (d : D) (ds : List D) (S : Sto) : Prop := P (d :: ds) S
theorem w_aCons : Wp (aCons fa fs env S) PA = Wp (fa env S) (kCons1 fs env PA) := by unfold aCons; simp only [wp_bind, wp_ok]; rfl
theorem k_Cons1 : kCons1 fs env PA d S = Wp (fs env S) (kCons2 PA d) := by first | rfl | exact wp_ok _ _ _
theorem k_Cons2 : kCons2 PA d ds S = PA (d :: ds) S := by first | rfl | exact wp_ok _ _ _
def kTup (P : D → Sto → Prop) (ds : List D) (S : Sto) : Prop := ds.length ≤ sizeLine ∧ P (.tup ds) S
def kLst (P : D → Sto → Prop) (ds : List D) (S : Sto) : Prop := ds.length ≤ sizeLine ∧ P (.lst ds) S
def kCell (P : D → Sto → Prop) (ds : List D) (S : Sto) : Prop := ds.length ≤ sizeLine ∧ P (.ref S.length) (S ++ [.lst ds])
theorem wp_bad {A : Type} {P : A → Sto → Prop} : Wp (.bad : Out A) P = False := wp_no (by intro a S h; cases h)
theorem wp_guard {A : Type} {c : Prop} [Decidable c] {m : Out A} {P : A → Sto → Prop} : Wp (if c then m else .bad) P = (c ∧ Wp m P) := by
  by_cases h : c
  · rw [if_pos h]; exact propext ⟨fun q => ⟨h, q⟩, fun q => q.2⟩
  · rw [if_neg h, wp_bad]; exact propext ⟨fun q => q.elim, fun q => h q.1⟩
theorem w_Tup : Wp (dTup fs env S) P = Wp (fs env S) (kTup P) := by unfold dTup; simp only [wp_bind, wp_guard, wp_ok]; rfl
theorem w_Lst : Wp (dLst fs env S) P = Wp (fs env S) (kLst P) := by unfold dLst; simp only [wp_bind, wp_guard, wp_ok]; rfl
theorem w_Cell : Wp (dCell fs env S) P = Wp (fs env S) (kCell P) := by unfold dCell; simp only [wp_bind, wp_guard, wp_ok]; rfl
theorem k_Tup : kTup P ds S = (ds.length ≤ sizeLine ∧ P (.tup ds) S) := by first | rfl | exact wp_ok _ _ _
theorem k_Lst : kLst P ds S = (ds.length ≤ sizeLine ∧ P (.lst ds) S) := by first | rfl | exact wp_ok _ _ _
theorem k_Cell : kCell P ds S = (ds.length ≤ sizeLine ∧ P (.ref S.length) (S ++ [.lst ds])) := by first | rfl | exact wp_ok _ _ _
def kCall (o : Sto → List D → Option D) (P : D → Sto → Prop) (ds : List D) (S : Sto) : Prop := Wp (lift (o S ds) S) P
theorem w_Call {o} : Wp (dCall o fs env S) P = Wp (fs env S) (kCall o P) := by unfold dCall; simp only [wp_bind, wp_ok]; rfl
theorem k_Call {o} : kCall o P ds S = Wp (lift (o S ds) S) P := by first | rfl | exact wp_ok _ _ _
def kCallF (fn : Fn) (P : D → Sto → Prop) (ds : List D) (S : Sto) : Prop := Wp (fn ds S) P
theorem w_CallF {fn : Fn} : Wp (dCallF fn fs env S) P = Wp (fs env S) (kCallF fn P) := by unfold dCallF; simp only [wp_bind, wp_ok]; rfl
theorem k_CallF {fn : Fn} : kCallF fn P ds S = Wp (fn ds S) P := by first | rfl | exact wp_ok _ _ _
def kCallN (o : Sto → List D → Option (List D)) (P : D → Sto → Prop) (ds : List D) (S : Sto) : Prop := Wp (lift (o S ds) S) fun es S1 => P (.ref S1.length) (S1 ++ [.lst es])
def kNew (P : D → Sto → Prop) (es : List D) (S : Sto) : Prop := P (.ref S.length) (S ++ [.lst es])
theorem w_CallN {o} : Wp (dCallN o fs env S) P = Wp (fs env S) (kCallN o P) := by
  unfold dCallN
  rw [wp_bind]
  congr 1
  funext ds S1
  unfold kCallN
  cases o S1 ds with
  | none => exact (wp_bad).trans (wp_bad).symm
  | some es => exact (wp_ok _ _ _).trans (wp_ok es S1 fun es S1 => P (.ref S1.length) (S1 ++ [.lst es])).symm
theorem k_CallN {o} : kCallN o P ds S = Wp (lift (o S ds) S) (kNew P) := by first | rfl | exact wp_ok _ _ _
theorem k_New : kNew P ds S = P (.ref S.length) (S ++ [.lst ds]) := by first | rfl | exact wp_ok _ _ _
def kAddN1 (fb : DE) (env : Ev) (P : D → Sto → Prop) (x : D) (S : Sto) : Prop := Wp (fb env S) fun y S2 => ∃ a b, lstOf S2 x = some a ∧ lstOf S2 y = some b ∧ a.length + b.length ≤ sizeLine ∧ P (.ref S2.length) (S2 ++ [.lst (a ++ b)])
def kAddN2 (P : D → Sto → Prop) (x y : D) (S : Sto) : Prop := ∃ a b, lstOf S x = some a ∧ lstOf S y = some b ∧ a.length + b.length ≤ sizeLine ∧ P (.ref S.length) (S ++ [.lst (a ++ b)])
theorem w_AddN (h : Wp (fa env S) (kAddN1 fb env P)) : Wp (dAddN fa fb env S) P := by
  unfold dAddN
  rw [wp_bind]
  refine h.mono fun x S1 q => ?_
  rw [wp_bind]
  refine Wp.mono q fun y S2 q => ?_
  obtain ⟨a, b, h1, h2, h3, h4⟩ := q
  rw [h1, h2]
  dsimp only
  rw [if_pos h3]
  exact Wp.of rfl h4
theorem k_AddN1 : kAddN1 fb env P x S = Wp (fb env S) (kAddN2 P x) := by first | rfl | exact wp_ok _ _ _
def kUn (o : D → Option D) (P : D → Sto → Prop) (x : D) (S : Sto) : Prop := Wp (lift (o x) S) P
theorem w_Un {o} : Wp (dUn o fa env S) P = Wp (fa env S) (kUn o P) := by unfold dUn; simp only [wp_bind, wp_ok]; rfl
theorem k_Un {o} : kUn o P x S = Wp (lift (o x) S) P := by first | rfl | exact wp_ok _ _ _
def kSl1 (o : Sto → D → Option Int → Option Int → Option D) (fl fu : DO) (env : Ev) (P : D → Sto → Prop) (x : D) (S : Sto) : Prop := Wp (fl env S) fun l S2 => Wp (fu env S2) fun u S3 => Wp (lift (o S3 x l u) S3) P
def kSl2 (o : Sto → D → Option Int → Option Int → Option D) (fu : DO) (env : Ev) (P : D → Sto → Prop) (x : D) (l : Option Int) (S : Sto) : Prop := Wp (fu env S) fun u S3 => Wp (lift (o S3 x l u) S3) P
def kSl3 (o : Sto → D → Option Int → Option Int → Option D) (P : D → Sto → Prop) (x : D) (l u : Option Int) (S : Sto) : Prop := Wp (lift (o S x l u) S) P
theorem w_Sl {o} {fl fu : DO} : Wp (dSl o fa fl fu env S) P = Wp (fa env S) (kSl1 o fl fu env P) := by unfold dSl; simp only [wp_bind, wp_ok]; rfl
theorem k_Sl1 {o} {fl fu : DO} : kSl1 o fl fu env P x S = Wp (fl env S) (kSl2 o fu env P x) := by first | rfl | exact wp_ok _ _ _
theorem k_Sl2 {o} {fu : DO} {l : Option Int} : kSl2 o fu env P x l S = Wp (fu env S) (kSl3 o P x l) := by first | rfl | exact wp_ok _ _ _
theorem k_Sl3 {o} {l u : Option Int} : kSl3 o P x l u S = Wp (lift (o S x l u) S) P := by first | rfl | exact wp_ok _ _ _
theorem w_No : Wp (oNo env S) PO = PO none S := by first | rfl | exact wp_ok _ _ _
def kSo (P : Option Int → Sto → Prop) (x : D) (S : Sto) : Prop := Wp (lift (asI x) S) fun i S2 => P (some i) S2
theorem w_So : Wp (oSo fa env S) PO = Wp (fa env S) (kSo PO) := by unfold oSo; simp only [wp_bind, wp_ok]; rfl
theorem k_So {j : Int} : kSo PO (.int j) S = PO (some j) S := by first | rfl | exact wp_ok _ _ _
def kItems (P : List D → Sto → Prop) (x : D) (S : Sto) : Prop := Wp (lift (seqItems x) S) P
theorem w_iSeq : Wp (iSeq fa env S) PA = Wp (fa env S) (kItems PA) := by unfold iSeq; simp only [wp_bind, wp_ok]; rfl
theorem k_Items : kItems PA x S = Wp (lift (seqItems x) S) PA := by first | rfl | exact wp_ok _ _ _
def kRng1 (P : List D → Sto → Prop) (ds : List D) (S : Sto) : Prop := Wp (lift (rng1 ds) S) P
def kRng2 (P : List D → Sto → Prop) (ds : List D) (S : Sto) : Prop := Wp (lift (rng2 ds) S) P
theorem w_Range1 : Wp (iRange1 fs env S) PA = Wp (fs env S) (kRng1 PA) := by unfold iRange1; simp only [wp_bind, wp_ok]; rfl
theorem w_Range2 : Wp (iRange2 fs env S) PA = Wp (fs env S) (kRng2 PA) := by unfold iRange2; simp only [wp_bind, wp_ok]; rfl
theorem k_Rng1 : kRng1 PA ds S = Wp (lift (rng1 ds) S) PA := by first | rfl | exact wp_ok _ _ _
theorem k_Rng2 : kRng2 PA ds S = Wp (lift (rng2 ds) S) PA := by first | rfl | exact wp_ok _ _ _
def kEnum (P : List D → Sto → Prop) (x : D) (S : Sto) : Prop := Wp (lift ((itemsOf x).map (enumL 0)) S) P
theorem w_iEnum : Wp (iEnum fa env S) PA = Wp (fa env S) (kEnum PA) := by unfold iEnum; simp only [wp_bind, wp_ok]; rfl
theorem k_Enum : kEnum PA x S = Wp (lift ((itemsOf x).map (enumL 0)) S) PA := by first | rfl | exact wp_ok _ _ _
def kComp (g : DG) (vs : List Nat) (tt : DB) (te : DE) (env : Ev) (P : D → Sto → Prop) (ds : List D) (S : Sto) : Prop := Wp (compGo g (wipeE env vs) tt te ds [] S) fun acc S2 => P (.lst acc) S2
def kAsL (P : D → Sto → Prop) (acc : List D) (S : Sto) : Prop := P (.lst acc) S
theorem w_Comp {vs : List Nat} {te : DE} : Wp (dComp it gg vs tt te env S) P = Wp (it env S) (kComp gg vs tt te env P) := by unfold dComp; simp only [wp_bind, wp_ok]; rfl
theorem k_Comp {vs : List Nat} {te : DE} : kComp gg vs tt te env P ds S = Wp (compGo gg (wipeE env vs) tt te ds [] S) (kAsL P) := by first | rfl | exact wp_ok _ _ _
theorem k_AsL : kAsL P ds S = P (.lst ds) S := by first | rfl | exact wp_ok _ _ _
-- statements
theorem w_Nil : Wp (sNil env S) PF = PF (.nx, env) S := by first | rfl | exact wp_ok _ _ _
theorem w_Nop : Wp (sNop env S) PF = PF (.nx, env) S := by first | rfl | exact wp_ok _ _ _
theorem w_Fl : Wp (sFl fl env S) PF = PF (fl, env) S := by first | rfl | exact wp_ok _ _ _
def kSeq (g : DS) (P : Fl × Ev → Sto → Prop) (p : Fl × Ev) (S : Sto) : Prop := Wp (match p.1 with | .nx => g p.2 S | fl => .ok (fl, p.2) S) P
theorem w_Seq : Wp (sSeq f g env S) PF = Wp (f env S) (kSeq g PF) := by unfold sSeq; simp only [wp_bind, wp_ok]; rfl
theorem k_Seqn : kSeq g PF (.nx, env) S = Wp (g env S) PF := by first | rfl | exact wp_ok _ _ _
theorem k_Seqr : kSeq g PF (.rt d, env) S = PF (.rt d, env) S := by first | rfl | exact wp_ok _ _ _
theorem k_Seqb : kSeq g PF (.bk, env) S = PF (.bk, env) S := by first | rfl | exact wp_ok _ _ _
theorem k_Seqc : kSeq g PF (.ct, env) S = PF (.ct, env) S := by first | rfl | exact wp_ok _ _ _
def kDrop (P : Fl × Ev → Sto → Prop) (env : Ev) (_ : D) (S : Sto) : Prop := P (.nx, env) S
theorem w_Expr : Wp (sExpr fa env S) PF = Wp (fa env S) (kDrop PF env) := by unfold sExpr; simp only [wp_bind, wp_ok]; rfl
theorem k_Drop : kDrop PF env x S = PF (.nx, env) S := by first | rfl | exact wp_ok _ _ _
def kRet (P : Fl × Ev → Sto → Prop) (env : Ev) (d : D) (S : Sto) : Prop := P (.rt d, env) S
theorem w_Ret : Wp (sRet fa env S) PF = Wp (fa env S) (kRet PF env) := by unfold sRet; simp only [wp_bind, wp_ok]; rfl
theorem k_Ret : kRet PF env d S = PF (.rt d, env) S := by first | rfl | exact wp_ok _ _ _
def kSet (i : Nat) (P : Fl × Ev → Sto → Prop) (env : Ev) (d : D) (S : Sto) : Prop := P (.nx, env.set i (some d)) S
theorem w_Set : Wp (sSet i fa env S) PF = Wp (fa env S) (kSet i PF env) := by unfold sSet; simp only [wp_bind, wp_ok]; rfl
theorem k_Set : kSet i PF env d S = PF (.nx, env.set i (some d)) S := by first | rfl | exact wp_ok _ _ _
def kAsg1 (g : DG) (P : Fl × Ev → Sto → Prop) (env : Ev) (d : D) (S : Sto) : Prop := Wp (lift (g env d) S) fun env' S2 => P (.nx, env') S2
def kNx (P : Fl × Ev → Sto → Prop) (env : Ev) (S : Sto) : Prop := P (.nx, env) S
theorem w_Asg : Wp (sAsg fa gg env S) PF = Wp (fa env S) (kAsg1 gg PF env) := by unfold sAsg; simp only [wp_bind, wp_ok]; rfl
theorem k_Asg1 : kAsg1 gg PF env d S = Wp (lift (gg env d) S) (kNx PF) := by first | rfl | exact wp_ok _ _ _
theorem k_Nx : kNx PF env S = PF (.nx, env) S := by first | rfl | exact wp_ok _ _ _
def kIf (f g : DS) (env : Ev) (P : Fl × Ev → Sto → Prop) (k : Bool) (S : Sto) : Prop := Wp (if k = true then f env S else g env S) P
theorem w_If : Wp (sIf tc f g env S) PF = Wp (tc env S) (kIf f g env PF) := by unfold sIf; simp only [wp_bind, wp_ok]; rfl
theorem k_Ift : kIf f g env PF true S = Wp (f env S) PF := by first | rfl | exact wp_ok _ _ _
theorem k_Iff : kIf f g env PF false S = Wp (g env S) PF := by first | rfl | exact wp_ok _ _ _
theorem k_Ifc {c : Bool} (h1 : c = true → Wp (f env S) PF) (h2 : c = false → Wp (g env S) PF) : kIf f g env PF c S := by
  cases c with
  | true => exact h1 rfl
  | false => exact h2 rfl
theorem k_Ifd {c : Prop} [Decidable c] (h1 : c → Wp (f env S) PF) (h2 : ¬ c → Wp (g env S) PF) : kIf f g env PF (decide c) S := k_Ifc (fun h => h1 (of_decide_eq_true h)) fun h => h2 (of_decide_eq_false h)
theorem k_Ifn {c : Prop} [Decidable c] (h1 : ¬ c → Wp (f env S) PF) (h2 : c → Wp (g env S) PF) : kIf f g env PF (!decide c) S := k_Ifc (fun h => h1 (by simpa using h)) fun h => h2 (by simpa using h)
def kFor (g : DG) (b : DS) (env : Ev) (P : Fl × Ev → Sto → Prop) (ds : List D) (S : Sto) : Prop := Wp (forGo g b ds env S) P
theorem w_For : Wp (sFor it gg b env S) PF = Wp (it env S) (kFor gg b env PF) := by unfold sFor; simp only [wp_bind, wp_ok]; rfl
theorem k_For : kFor gg b env PF ds S = Wp (forGo gg b ds env S) PF := by first | rfl | exact wp_ok _ _ _
def kPut1 (fo fi : DE) (env : Ev) (P : Fl × Ev → Sto → Prop) (y : D) (S : Sto) : Prop := Wp (fo env S) fun o S2 => Wp (fi env S2) fun i S3 => ∃ n ds k j, o = .ref n ∧ S3[n]? = some (.lst ds) ∧ i = .int k ∧ ixN ds.length k = some j ∧ P (.nx, env) (S3.set n (.lst (ds.set j y)))
def kPut2 (fi : DE) (env : Ev) (P : Fl × Ev → Sto → Prop) (y o : D) (S : Sto) : Prop := Wp (fi env S) fun i S3 => ∃ n ds k j, o = .ref n ∧ S3[n]? = some (.lst ds) ∧ i = .int k ∧ ixN ds.length k = some j ∧ P (.nx, env) (S3.set n (.lst (ds.set j y)))
def kPut3 (env : Ev) (P : Fl × Ev → Sto → Prop) (y o i : D) (S : Sto) : Prop := ∃ n ds k j, o = .ref n ∧ S[n]? = some (.lst ds) ∧ i = .int k ∧ ixN ds.length k = some j ∧ P (.nx, env) (S.set n (.lst (ds.set j y)))
theorem w_PutL (h : Wp (fe env S) (kPut1 fo fi env PF)) : Wp (sPutL fo fi fe env S) PF := by
  obtain ⟨y, S1, e1, h1⟩ := h.get
  obtain ⟨o, S2, e2, h2⟩ := Wp.get h1
  obtain ⟨i, S3, e3, n, ds, k, j, eo, hn, ei, hk, hp⟩ := Wp.get h2
  subst eo ei
  exact Wp.of (putL_ref e1 e2 e3 hn hk) hp
theorem k_Put1 : kPut1 fo fi env PF y S = Wp (fo env S) (kPut2 fi env PF y) := by first | rfl | exact wp_ok _ _ _
theorem k_Put2 {o : D} : kPut2 fi env PF y o S = Wp (fi env S) (kPut3 env PF y o) := by first | rfl | exact wp_ok _ _ _
def kApp (fa : DE) (env : Ev) (P : D → Sto → Prop) (o : D) (S : Sto) : Prop := ∃ n, o = .ref n ∧ (∃ ds, S[n]? = some (.lst ds)) ∧ Wp (fa env S) fun y S2 => ∃ es, S2[n]? = some (.lst es) ∧ es.length < sizeLine ∧ P .non (S2.set n (.lst (es ++ [y])))
theorem w_App (h : Wp (fo env S) (kApp fa env P)) : Wp (dAppend fo fa env S) P := by
  obtain ⟨o, S1, e1, n, eo, ⟨ds, hd⟩, h2⟩ := h.get
  subst eo
  exact wp_append e1 hd h2
def kApp2 (n : Nat) (P : D → Sto → Prop) (y : D) (S : Sto) : Prop := ∃ es, S[n]? = some (.lst es) ∧ es.length < sizeLine ∧ P .non (S.set n (.lst (es ++ [y])))
theorem k_App {n : Nat} {ds : List D} (h : S[n]? = some (.lst ds)) (h2 : Wp (fa env S) (kApp2 n P)) : kApp fa env P (.ref n) S := ⟨n, rfl, ⟨ds, h⟩, h2⟩
theorem le_size {n : Nat} (h : n ≤ 1000) : (n ≤ sizeLine) = True := by
  have e := sizeLine_eq
  exact eq_true (by omega)
theorem len_str {S : Sto} {x : Str} (h : x.length ≤ sizeLine) : oLen S [.str x] = some (.int x.length) := if_pos h
/-- a def -/
def kFun (P : D → Sto → Prop) (p : Fl × Ev) (S : Sto) : Prop := match p.1 with | .nx => P .non S | .rt d => P d S | _ => False
theorem w_Fun {g : DS} : Wp (dFun n g ds S) P = Wp (g (ds.map some ++ List.replicate (n - ds.length) none) S) (kFun P) := by
  unfold dFun
  rw [wp_bind]
  congr 1
  funext p S1
  obtain ⟨fl, env⟩ := p
  cases fl <;> first | exact wp_ok _ _ _ | exact wp_bad
theorem w_Fun0 {g : DS} : Wp (dFun0 n g ds S) P = Wp (g (ds.map some ++ List.replicate (n - ds.length) none) S) (kFun P) := by unfold dFun0; rw [wp_noexc, w_Fun]
theorem k_Funn : kFun P (.nx, env) S = P .non S := by first | rfl | exact wp_ok _ _ _
theorem k_Funr : kFun P (.rt d, env) S = P d S := by first | rfl | exact wp_ok _ _ _
theorem w_newK : Wp (dNewK env S) P = P (.ref S.length) (S ++ [.dK []]) := by first | rfl | exact wp_ok _ _ _
theorem w_newT : Wp (dNewT env S) P = P (.ref S.length) (S ++ [.dT []]) := by first | rfl | exact wp_ok _ _ _
end
end DL
end L2

set_option Elab.async false
set_option linter.all false
set_option maxRecDepth 100000
namespace L2
namespace DL
open PySem PySem.Spec PyProof.Rows
/-! ### values whose types are known -/
mutual
def typedD (S : Sto) : D → Bool
  | .tup ds => typedL S ds
  | .lst ds => typedL S ds
  | .fz ds => typedL S ds
  | .ref n => (tyN S (.ref n)).isSome
  | .ty _ => false
  | _ => true
def typedL (S : Sto) : List D → Bool
  | [] => true
  | d :: ds => typedD S d && typedL S ds
end
theorem typed_mem {S : Sto} : ∀ {ds : List D} {d : D}, typedL S ds = true → d ∈ ds → typedD S d = true
  | [], _, _, h => by cases h
  | x :: xs, d, h, hm => by
    unfold typedL at h
    rw [Bool.and_eq_true] at h
    rcases List.mem_cons.mp hm with e | e
    · rw [e]; exact h.1
    · exact typed_mem h.2 e
theorem typed_ty {S : Sto} {d : D} (h : typedD S d = true) : ∃ T, tyN S d = some T ∧ (T = "NoneType" ∨ T = "bool" ∨ T = "int" ∨ T = "str" ∨ T = "tuple" ∨ T = "list" ∨ T = "dict") := by
  cases d with
  | ref n =>
    have h' : (tyN S (.ref n)).isSome = true := h
    obtain ⟨T, e⟩ := Option.isSome_iff_exists.mp h'
    refine ⟨T, e, ?_⟩
    unfold tyN at e
    dsimp only at e
    split at e <;> cases e <;> simp
  | ty n => cases h
  | _ => exact ⟨_, rfl, by simp⟩

theorem kt_NoneType_int : kitB "NoneType" "int" = some false := by decide +kernel
theorem kt_NoneType_bool : kitB "NoneType" "bool" = some false := by decide +kernel
theorem kt_NoneType_str : kitB "NoneType" "str" = some false := by decide +kernel
theorem kt_NoneType_tuple : kitB "NoneType" "tuple" = some false := by decide +kernel
theorem kt_NoneType_list : kitB "NoneType" "list" = some false := by decide +kernel
theorem kt_NoneType_dict : kitB "NoneType" "dict" = some false := by decide +kernel
theorem kt_bool_int : kitB "bool" "int" = some true := by decide +kernel
theorem kt_bool_bool : kitB "bool" "bool" = some true := by decide +kernel
theorem kt_bool_str : kitB "bool" "str" = some false := by decide +kernel
theorem kt_bool_tuple : kitB "bool" "tuple" = some false := by decide +kernel
theorem kt_bool_list : kitB "bool" "list" = some false := by decide +kernel
theorem kt_bool_dict : kitB "bool" "dict" = some false := by decide +kernel
theorem kt_int_int : kitB "int" "int" = some true := by decide +kernel
theorem kt_int_bool : kitB "int" "bool" = some false := by decide +kernel
theorem kt_int_str : kitB "int" "str" = some false := by decide +kernel
theorem kt_int_tuple : kitB "int" "tuple" = some false := by decide +kernel
theorem kt_int_list : kitB "int" "list" = some false := by decide +kernel
theorem kt_int_dict : kitB "int" "dict" = some false := by decide +kernel
theorem kt_str_int : kitB "str" "int" = some false := by decide +kernel
theorem kt_str_bool : kitB "str" "bool" = some false := by decide +kernel
theorem kt_str_str : kitB "str" "str" = some true := by decide +kernel
theorem kt_str_tuple : kitB "str" "tuple" = some false := by decide +kernel
theorem kt_str_list : kitB "str" "list" = some false := by decide +kernel
theorem kt_str_dict : kitB "str" "dict" = some false := by decide +kernel
theorem kt_tuple_int : kitB "tuple" "int" = some false := by decide +kernel
theorem kt_tuple_bool : kitB "tuple" "bool" = some false := by decide +kernel
theorem kt_tuple_str : kitB "tuple" "str" = some false := by decide +kernel
theorem kt_tuple_tuple : kitB "tuple" "tuple" = some true := by decide +kernel
theorem kt_tuple_list : kitB "tuple" "list" = some false := by decide +kernel
theorem kt_tuple_dict : kitB "tuple" "dict" = some false := by decide +kernel
theorem kt_list_int : kitB "list" "int" = some false := by decide +kernel
theorem kt_list_bool : kitB "list" "bool" = some false := by decide +kernel
theorem kt_list_str : kitB "list" "str" = some false := by decide +kernel
theorem kt_list_tuple : kitB "list" "tuple" = some false := by decide +kernel
theorem kt_list_list : kitB "list" "list" = some true := by decide +kernel
theorem kt_list_dict : kitB "list" "dict" = some false := by decide +kernel
theorem kt_dict_int : kitB "dict" "int" = some false := by decide +kernel
theorem kt_dict_bool : kitB "dict" "bool" = some false := by decide +kernel
theorem kt_dict_str : kitB "dict" "str" = some false := by decide +kernel
theorem kt_dict_tuple : kitB "dict" "tuple" = some false := by decide +kernel
theorem kt_dict_list : kitB "dict" "list" = some false := by decide +kernel
theorem kt_dict_dict : kitB "dict" "dict" = some true := by decide +kernel
theorem inst_of {S : Sto} {d : D} {T c : String} {b : Bool} (h : tyN S d = some T) (k : kitB T c = some b) : oIsInst S [d, .ty c] = some (.bl b) := by
  unfold oIsInst
  dsimp only
  rw [h]
  dsimp only
  rw [k]
  rfl

theorem ii_non_int {S : Sto}  : oIsInst S [.non, .ty "int"] = some (.bl false) := inst_of rfl kt_NoneType_int
theorem ii_non_bool {S : Sto}  : oIsInst S [.non, .ty "bool"] = some (.bl false) := inst_of rfl kt_NoneType_bool
theorem ii_non_str {S : Sto}  : oIsInst S [.non, .ty "str"] = some (.bl false) := inst_of rfl kt_NoneType_str
theorem ii_non_tuple {S : Sto}  : oIsInst S [.non, .ty "tuple"] = some (.bl false) := inst_of rfl kt_NoneType_tuple
theorem ii_non_list {S : Sto}  : oIsInst S [.non, .ty "list"] = some (.bl false) := inst_of rfl kt_NoneType_list
theorem ii_non_dict {S : Sto}  : oIsInst S [.non, .ty "dict"] = some (.bl false) := inst_of rfl kt_NoneType_dict
theorem ii_bl_int {S : Sto} {b : Bool} : oIsInst S [(.bl b), .ty "int"] = some (.bl true) := inst_of rfl kt_bool_int
theorem ii_bl_bool {S : Sto} {b : Bool} : oIsInst S [(.bl b), .ty "bool"] = some (.bl true) := inst_of rfl kt_bool_bool
theorem ii_bl_str {S : Sto} {b : Bool} : oIsInst S [(.bl b), .ty "str"] = some (.bl false) := inst_of rfl kt_bool_str
theorem ii_bl_tuple {S : Sto} {b : Bool} : oIsInst S [(.bl b), .ty "tuple"] = some (.bl false) := inst_of rfl kt_bool_tuple
theorem ii_bl_list {S : Sto} {b : Bool} : oIsInst S [(.bl b), .ty "list"] = some (.bl false) := inst_of rfl kt_bool_list
theorem ii_bl_dict {S : Sto} {b : Bool} : oIsInst S [(.bl b), .ty "dict"] = some (.bl false) := inst_of rfl kt_bool_dict
theorem ii_int_int {S : Sto} {i : Int} : oIsInst S [(.int i), .ty "int"] = some (.bl true) := inst_of rfl kt_int_int
theorem ii_int_bool {S : Sto} {i : Int} : oIsInst S [(.int i), .ty "bool"] = some (.bl false) := inst_of rfl kt_int_bool
theorem ii_int_str {S : Sto} {i : Int} : oIsInst S [(.int i), .ty "str"] = some (.bl false) := inst_of rfl kt_int_str
theorem ii_int_tuple {S : Sto} {i : Int} : oIsInst S [(.int i), .ty "tuple"] = some (.bl false) := inst_of rfl kt_int_tuple
theorem ii_int_list {S : Sto} {i : Int} : oIsInst S [(.int i), .ty "list"] = some (.bl false) := inst_of rfl kt_int_list
theorem ii_int_dict {S : Sto} {i : Int} : oIsInst S [(.int i), .ty "dict"] = some (.bl false) := inst_of rfl kt_int_dict
theorem ii_str_int {S : Sto} {x : Str} : oIsInst S [(.str x), .ty "int"] = some (.bl false) := inst_of rfl kt_str_int
theorem ii_str_bool {S : Sto} {x : Str} : oIsInst S [(.str x), .ty "bool"] = some (.bl false) := inst_of rfl kt_str_bool
theorem ii_str_str {S : Sto} {x : Str} : oIsInst S [(.str x), .ty "str"] = some (.bl true) := inst_of rfl kt_str_str
theorem ii_str_tuple {S : Sto} {x : Str} : oIsInst S [(.str x), .ty "tuple"] = some (.bl false) := inst_of rfl kt_str_tuple
theorem ii_str_list {S : Sto} {x : Str} : oIsInst S [(.str x), .ty "list"] = some (.bl false) := inst_of rfl kt_str_list
theorem ii_str_dict {S : Sto} {x : Str} : oIsInst S [(.str x), .ty "dict"] = some (.bl false) := inst_of rfl kt_str_dict
theorem ii_tup_int {S : Sto} {ds : List D} : oIsInst S [(.tup ds), .ty "int"] = some (.bl false) := inst_of rfl kt_tuple_int
theorem ii_tup_bool {S : Sto} {ds : List D} : oIsInst S [(.tup ds), .ty "bool"] = some (.bl false) := inst_of rfl kt_tuple_bool
theorem ii_tup_str {S : Sto} {ds : List D} : oIsInst S [(.tup ds), .ty "str"] = some (.bl false) := inst_of rfl kt_tuple_str
theorem ii_tup_tuple {S : Sto} {ds : List D} : oIsInst S [(.tup ds), .ty "tuple"] = some (.bl true) := inst_of rfl kt_tuple_tuple
theorem ii_tup_list {S : Sto} {ds : List D} : oIsInst S [(.tup ds), .ty "list"] = some (.bl false) := inst_of rfl kt_tuple_list
theorem ii_tup_dict {S : Sto} {ds : List D} : oIsInst S [(.tup ds), .ty "dict"] = some (.bl false) := inst_of rfl kt_tuple_dict
theorem ii_lst_int {S : Sto} {ds : List D} : oIsInst S [(.lst ds), .ty "int"] = some (.bl false) := inst_of rfl kt_list_int
theorem ii_lst_bool {S : Sto} {ds : List D} : oIsInst S [(.lst ds), .ty "bool"] = some (.bl false) := inst_of rfl kt_list_bool
theorem ii_lst_str {S : Sto} {ds : List D} : oIsInst S [(.lst ds), .ty "str"] = some (.bl false) := inst_of rfl kt_list_str
theorem ii_lst_tuple {S : Sto} {ds : List D} : oIsInst S [(.lst ds), .ty "tuple"] = some (.bl false) := inst_of rfl kt_list_tuple
theorem ii_lst_list {S : Sto} {ds : List D} : oIsInst S [(.lst ds), .ty "list"] = some (.bl true) := inst_of rfl kt_list_list
theorem ii_lst_dict {S : Sto} {ds : List D} : oIsInst S [(.lst ds), .ty "dict"] = some (.bl false) := inst_of rfl kt_list_dict
theorem ii_fz_int {S : Sto} {ds : List D} : oIsInst S [(.fz ds), .ty "int"] = some (.bl false) := inst_of rfl kt_list_int
theorem ii_fz_bool {S : Sto} {ds : List D} : oIsInst S [(.fz ds), .ty "bool"] = some (.bl false) := inst_of rfl kt_list_bool
theorem ii_fz_str {S : Sto} {ds : List D} : oIsInst S [(.fz ds), .ty "str"] = some (.bl false) := inst_of rfl kt_list_str
theorem ii_fz_tuple {S : Sto} {ds : List D} : oIsInst S [(.fz ds), .ty "tuple"] = some (.bl false) := inst_of rfl kt_list_tuple
theorem ii_fz_list {S : Sto} {ds : List D} : oIsInst S [(.fz ds), .ty "list"] = some (.bl true) := inst_of rfl kt_list_list
theorem ii_fz_dict {S : Sto} {ds : List D} : oIsInst S [(.fz ds), .ty "dict"] = some (.bl false) := inst_of rfl kt_list_dict
theorem ir_int {S : Sto} {n : Nat} (h : typedD S (.ref n) = true) : oIsInst S [.ref n, .ty "int"] = some (.bl false) := by
  have h' : (tyN S (.ref n)).isSome = true := h
  obtain ⟨T, e⟩ := Option.isSome_iff_exists.mp h'
  have e2 := e
  unfold tyN at e2
  dsimp only at e2
  split at e2
  · exact inst_of (T := "list") (by rw [e]; exact e2.symm) kt_list_int
  · exact inst_of (T := "dict") (by rw [e]; exact e2.symm) kt_dict_int
  · exact inst_of (T := "dict") (by rw [e]; exact e2.symm) kt_dict_int
  · cases e2
theorem ir_bool {S : Sto} {n : Nat} (h : typedD S (.ref n) = true) : oIsInst S [.ref n, .ty "bool"] = some (.bl false) := by
  have h' : (tyN S (.ref n)).isSome = true := h
  obtain ⟨T, e⟩ := Option.isSome_iff_exists.mp h'
  have e2 := e
  unfold tyN at e2
  dsimp only at e2
  split at e2
  · exact inst_of (T := "list") (by rw [e]; exact e2.symm) kt_list_bool
  · exact inst_of (T := "dict") (by rw [e]; exact e2.symm) kt_dict_bool
  · exact inst_of (T := "dict") (by rw [e]; exact e2.symm) kt_dict_bool
  · cases e2
theorem ir_str {S : Sto} {n : Nat} (h : typedD S (.ref n) = true) : oIsInst S [.ref n, .ty "str"] = some (.bl false) := by
  have h' : (tyN S (.ref n)).isSome = true := h
  obtain ⟨T, e⟩ := Option.isSome_iff_exists.mp h'
  have e2 := e
  unfold tyN at e2
  dsimp only at e2
  split at e2
  · exact inst_of (T := "list") (by rw [e]; exact e2.symm) kt_list_str
  · exact inst_of (T := "dict") (by rw [e]; exact e2.symm) kt_dict_str
  · exact inst_of (T := "dict") (by rw [e]; exact e2.symm) kt_dict_str
  · cases e2
theorem ir_tuple {S : Sto} {n : Nat} (h : typedD S (.ref n) = true) : oIsInst S [.ref n, .ty "tuple"] = some (.bl false) := by
  have h' : (tyN S (.ref n)).isSome = true := h
  obtain ⟨T, e⟩ := Option.isSome_iff_exists.mp h'
  have e2 := e
  unfold tyN at e2
  dsimp only at e2
  split at e2
  · exact inst_of (T := "list") (by rw [e]; exact e2.symm) kt_list_tuple
  · exact inst_of (T := "dict") (by rw [e]; exact e2.symm) kt_dict_tuple
  · exact inst_of (T := "dict") (by rw [e]; exact e2.symm) kt_dict_tuple
  · cases e2
def isIntD : D → Bool
  | .int _ => true
  | .bl _ => true
  | _ => false
def isBlD : D → Bool
  | .bl _ => true
  | _ => false
def isStrD : D → Bool
  | .str _ => true
  | _ => false
def isTupD : D → Bool
  | .tup _ => true
  | _ => false
theorem it_int {S : Sto} {d : D} (h : typedD S d = true) : oIsInst S [d, .ty "int"] = some (.bl (isIntD d)) := by
  cases d with
  | ref n => exact ir_int h
  | ty n => cases h
  | non => exact ii_non_int
  | bl b => exact ii_bl_int
  | int i => exact ii_int_int
  | str x => exact ii_str_int
  | tup ds => exact ii_tup_int
  | lst ds => exact ii_lst_int
  | fz ds => exact ii_fz_int
theorem it_bool {S : Sto} {d : D} (h : typedD S d = true) : oIsInst S [d, .ty "bool"] = some (.bl (isBlD d)) := by
  cases d with
  | ref n => exact ir_bool h
  | ty n => cases h
  | non => exact ii_non_bool
  | bl b => exact ii_bl_bool
  | int i => exact ii_int_bool
  | str x => exact ii_str_bool
  | tup ds => exact ii_tup_bool
  | lst ds => exact ii_lst_bool
  | fz ds => exact ii_fz_bool
theorem it_str {S : Sto} {d : D} (h : typedD S d = true) : oIsInst S [d, .ty "str"] = some (.bl (isStrD d)) := by
  cases d with
  | ref n => exact ir_str h
  | ty n => cases h
  | non => exact ii_non_str
  | bl b => exact ii_bl_str
  | int i => exact ii_int_str
  | str x => exact ii_str_str
  | tup ds => exact ii_tup_str
  | lst ds => exact ii_lst_str
  | fz ds => exact ii_fz_str
theorem it_tuple {S : Sto} {d : D} (h : typedD S d = true) : oIsInst S [d, .ty "tuple"] = some (.bl (isTupD d)) := by
  cases d with
  | ref n => exact ir_tuple h
  | ty n => cases h
  | non => exact ii_non_tuple
  | bl b => exact ii_bl_tuple
  | int i => exact ii_int_tuple
  | str x => exact ii_str_tuple
  | tup ds => exact ii_tup_tuple
  | lst ds => exact ii_lst_tuple
  | fz ds => exact ii_fz_tuple
theorem typed_tup {S : Sto} {ds : List D} (h : typedD S (.tup ds) = true) : ∀ d ∈ ds, typedD S d = true := fun d hd => typed_mem (show typedL S ds = true from h) hd
theorem blsOf_map {A : Type} (f : A → Bool) : ∀ l : List A, blsOf (l.map fun a => D.bl (f a)) = some (l.map f)
  | [] => rfl
  | a :: l => by
    rw [List.map_cons, List.map_cons]
    unfold blsOf
    rw [blsOf_map f l]
    rfl
theorem all_lst {A : Type} (S : Sto) (f : A → Bool) (l : List A) : oAll S [.lst (l.map fun a => D.bl (f a))] = some (.bl (l.all f)) := by
  show ((listOf S (.lst _)).bind blsOf).map _ = _
  show (blsOf _).map _ = _
  rw [blsOf_map, Option.map_some, List.all_map]
  rfl
theorem add_ll {S : Sto} {a b : List D} (h : a.length + b.length ≤ 1000) : oAdd S (.lst a) (.lst b) = some (.lst (a ++ b)) := by
  refine (orO_none rfl).trans (orO_some ?_)
  show (if a.length + b.length ≤ sizeLine then some (D.lst (a ++ b)) else none) = _
  rw [if_pos (by have e := sizeLine_eq; omega)]
theorem add_tt {S : Sto} {a b : List D} (h : a.length + b.length ≤ 1000) : oAdd S (.tup a) (.tup b) = some (.tup (a ++ b)) := by
  refine (orO_none rfl).trans ((orO_none rfl).trans (orO_some ?_))
  show (if a.length + b.length ≤ sizeLine then some (D.tup (a ++ b)) else none) = _
  rw [if_pos (by have e := sizeLine_eq; omega)]
theorem tuple_lst (S : Sto) (a : List D) : oTuple S [.lst a] = some (.tup a) := rfl
theorem tuple_tup (S : Sto) (a : List D) : oTuple S [.tup a] = some (.tup a) := rfl
theorem list_tup (S : Sto) (a : List D) : oListC S [.tup a] = some (.lst a) := rfl
theorem list_lst (S : Sto) (a : List D) : oListC S [.lst a] = some (.lst a) := rfl
theorem sl_tup (S : Sto) (a : List D) (l u : Option Int) : oSl S (.tup a) l u = some (.tup (cutD a l u)) := rfl
theorem sl_lst (S : Sto) (a : List D) (l u : Option Int) : oSl S (.lst a) l u = some (.lst (cutD a l u)) := rfl
theorem mul_ti {S : Sto} {a : List D} {k : Int} (h : a ≠ []) (h2 : 2 ≤ k) (h3 : k ≤ 1000) (h4 : a.length ≤ 1000) : oMul S (.tup a) (.int k) = some (.tup (List.replicate k.toNat a).flatten) := by
  refine (orO_none rfl).trans ((orO_none rfl).trans ?_)
  show (if a ≠ [] ∧ 2 ≤ k ∧ k ≤ 1000 ∧ a.length ≤ 1000 then some (D.tup (List.replicate k.toNat a).flatten) else none) = _
  rw [if_pos ⟨h, h2, h3, h4⟩]
theorem cut_lo (ds : List D) (i : Int) (h0 : 0 ≤ i) (h : i ≤ ds.length) : cutD ds none (some i) = ds.take i.toNat := by
  have e : i = ((i.toNat : Nat) : Int) := by omega
  unfold cutD
  rw [e, HT.sIx_nat, HT.sIx_none, List.drop_zero, Nat.sub_zero, Int.toNat_natCast, Nat.min_eq_left (by omega)]
theorem cut_hi (ds : List D) (i : Int) (h0 : 0 ≤ i) (h : i ≤ ds.length) : cutD ds (some i) none = ds.drop i.toNat := by
  have e : i = ((i.toNat : Nat) : Int) := by omega
  unfold cutD
  rw [e, HT.sIx_nat, HT.sIx_none, Int.toNat_natCast, Nat.min_eq_left (by omega), List.take_of_length_le (by rw [List.length_drop]; omega)]
theorem atI_in {ds : List D} {i : Int} (h0 : 0 ≤ i) (h : i < ds.length) : atI ds i = some (ds[i.toNat]'(by omega)) := at_nat h0 (List.getElem?_eq_getElem _)
mutual
theorem typed_any {S : Sto} : ∀ {d : D}, typedD [] d = true → typedD S d = true
  | .non, _ => rfl
  | .bl _, _ => rfl
  | .int _, _ => rfl
  | .str _, _ => rfl
  | .tup ds, h => typedL_any (ds := ds) h
  | .lst ds, h => typedL_any (ds := ds) h
  | .fz ds, h => typedL_any (ds := ds) h
  | .ref n, h => by
    have h' : (tyN [] (.ref n)).isSome = true := h
    cases h'
  | .ty _, h => by cases h
theorem typedL_any {S : Sto} : ∀ {ds : List D}, typedL [] ds = true → typedL S ds = true
  | [], _ => rfl
  | d :: ds, h => by
    have h' : (typedD [] d && typedL [] ds) = true := h
    rw [Bool.and_eq_true] at h'
    show (typedD S d && typedL S ds) = true
    rw [typed_any h'.1, typedL_any h'.2]
    rfl
end
theorem allc {p : D → Prop} {a : D} {l : List D} (h : p a) (k : ∀ d ∈ l, p d) : ∀ d ∈ a :: l, p d := fun d hd => by
  rcases List.mem_cons.mp hd with e | e
  · rw [e]; exact h
  · exact k d e
theorem alln {p : D → Prop} : ∀ d ∈ ([] : List D), p d := fun d hd => nomatch hd
end DL
end L2

set_option Elab.async false
set_option linter.all false
set_option maxRecDepth 100000
namespace HT
open PySem PySem.Spec PyProof.Rows
section
variable {prog : Program} {w : World} {A : Around} {E : Value → Shared → Prop} {s : Shared}
theorem adjust_rev (n : Nat) : Builtin.Slice.sliceAdjust none none (-1) (n : Int) = ((n : Int) - 1, -1) := by
  unfold Builtin.Slice.sliceAdjust
  simp
theorem places_rev (n : Nat) : Builtin.Slice.slicePlaces ((n : Int) - 1) (-1) (-1) = n := by
  unfold Builtin.Slice.slicePlaces
  simp
  omega
theorem sliceApplied_rev {sl : Addr} {vl vu vk : Value} {n : Nat} {Q : Int × Int × Nat → Shared → Prop} (hs : s.heap.IsSliceOf sl vl vu vk) (pl : IsPart vl none) (pu : IsPart vu none) (pk : IsPart vk (some (-1)))
    (h : Q ((n : Int) - 1, -1, n) s) : wpAny (model prog w) A (Builtin.Slice.sliceApplied (.ref sl) (pure (n : Int))) Q E s := by
  obtain ⟨os, hos, hcs, hds⟩ := id hs
  unfold Builtin.Slice.sliceApplied Builtin.Slice.sliceFields
  refine wpAny_bind (wpAny_bind (wpAny_field hos hds (x := vl) rfl (wpAny_bind (wpAny_field hos hds (x := vu) rfl (wpAny_bind (wpAny_field hos hds (x := vk) rfl (wpAny_pure ?_)))))))
  refine wpAny_bind (slicePart_ pk ?_)
  show wpAny _ _ (if ((-1 : Int) == 0) = true then _ else _) _ _ s
  rw [if_neg (by decide)]
  refine wpAny_bind (slicePart_ pl (wpAny_bind (slicePart_ pu (wpAny_bind (wpAny_pure ?_)))))
  show wpAny _ _ (match Builtin.Slice.sliceAdjust none none (-1) (n : Int) with | (lo, hi) => pure (lo, (-1 : Int), Builtin.Slice.slicePlaces lo hi (-1))) _ _ s
  rw [adjust_rev n]
  show wpAny _ _ (pure (((n : Int) - 1), (-1 : Int), Builtin.Slice.slicePlaces ((n : Int) - 1) (-1) (-1))) _ _ s
  rw [places_rev]
  exact wpAny_pure h
theorem fm_some {α β : Type} (f : α → Option β) (g : α → β) : ∀ l : List α, (∀ m ∈ l, f m = some (g m)) → l.filterMap f = l.map g
  | [], _ => rfl
  | a :: l, h => by rw [List.filterMap_cons_some (h a List.mem_cons_self), List.map_cons, fm_some f g l fun m hm => h m (List.mem_cons_of_mem _ hm)]
theorem pick_rev (xs : Array Value) : ((List.range xs.size).filterMap fun (m : Nat) => xs[(((xs.size : Int) - 1) + (m : Int) * (-1)).toNat]?).toArray = xs.toList.reverse.toArray := by
  have key : ∀ l : List Value, ((List.range l.length).filterMap fun (m : Nat) => l[(((l.length : Int) - 1) + (m : Int) * (-1)).toNat]?) = l.reverse := fun l => by
    refine List.ext_getElem? fun i => ?_
    have e : (List.range l.length).filterMap (fun (m : Nat) => l[(((l.length : Int) - 1) + (m : Int) * (-1)).toNat]?) = (List.range l.length).map fun (m : Nat) => l[(((l.length : Int) - 1) + (m : Int) * (-1)).toNat]?.getD .none := by
      refine fm_some _ _ _ fun m hm => ?_
      rw [List.mem_range] at hm
      rw [List.getElem?_eq_getElem (show (((l.length : Int) - 1) + (m : Int) * (-1)).toNat < l.length by omega)]
      rfl
    rw [e, List.getElem?_map]
    by_cases hi : i < l.length
    · rw [List.getElem?_range hi, List.getElem?_reverse hi]
      show some (l[(((l.length : Int) - 1) + (i : Int) * (-1)).toNat]?.getD .none) = _
      rw [show (((l.length : Int) - 1) + (i : Int) * (-1)).toNat = l.length - 1 - i by omega, List.getElem?_eq_getElem (show l.length - 1 - i < l.length by omega)]
      rfl
    · rw [List.getElem?_eq_none (by rw [List.length_range]; omega), List.getElem?_eq_none (by rw [List.length_reverse]; omega)]
      rfl
  have := key xs.toList
  rw [Array.length_toList] at this
  rw [← this]
  simp only [Array.getElem?_toList]
theorem getItem_tuple_rev {t sl : Addr} {items : Array Value} {vl vu vk : Value} {Q : Value → Shared → Prop} (ht : IsTup s.heap t items) (hs : s.heap.IsSliceOf sl vl vu vk) (pl : IsPart vl none) (pu : IsPart vu none) (pk : IsPart vk (some (-1)))
    (h : Q (.ref s.heap.objs.size) { s with heap := s.heap.push { cls := .type "tuple", data := .seq items.toList.reverse.toArray } }) (hsz : items.size ≤ sizeLine) : wpAny (model prog w) A (getItem (.ref t) (.ref sl)) Q E s := by
  have htake : sizeOk (.seq items.toList.reverse.toArray) := by
    show items.toList.reverse.toArray.size ≤ sizeLine
    rw [List.size_toArray, List.length_reverse, Array.length_toList]
    exact hsz
  obtain ⟨os, hos, hcs, hds⟩ := id hs
  have hTs : s.TypeIs (.ref sl) "slice" := ⟨os, hos, hcs⟩
  unfold getItem
  try with_reducible refine wpAny_holding ?_
  first | refine wpAny_bind (wpAny_pure ?_) | skip
  refine wpAny_bind (wpAny_sequenceKey ht.typeIs (by decide) ?_)
  refine wpAny_bind (wpAny_callSpecial?_slot (name := Str.ofString "__getitem__") ht.typeIs PyProof.Rows.slot_tuple_getitem
    (wpAny_call_entry PyProof.Rows.slot_tuple_getitem ht.typeIs entry_tuple_getitem ?_ (args_tuple_getitem _ _)))
  show wpAny _ _ (Builtin.Tuple.tupleItemsOf (.ref t) >>= _) _ _ s
  refine wpAny_bind (tupleItemsOf_ ht ?_)
  refine wpAny_bind (wpAny_typeOf hTs ?_)
  rw [if_pos (by decide)]
  refine wpAny_bind (sliceApplied_rev hs pl pu pk ?_)
  have hno : ¬ ((((items.size : Int) - 1) == 0 && (-1 : Int) == 1 && items.size == items.size) = true) := by
    intro q
    rw [Bool.and_eq_true, Bool.and_eq_true] at q
    exact absurd q.1.2 (by decide)
  show wpAny _ _ (if (((items.size : Int) - 1) == 0 && (-1 : Int) == 1 && items.size == items.size) = true then _ else _) _ _ s
  rw [if_neg hno, pick_rev]
  first
    | exact wpAny_bind (m := Builtin.Tuple.tupleExact _) (wpAny_newObj_type (wpAny_pure ⟨_, rfl, wpAny_pure h⟩) htake)
    | exact wpAny_bind (m := Builtin.Tuple.tupleExact _) (wpAny_newObj_type (wpAny_bind (wpAny_pure (wpAny_pure ⟨_, rfl, wpAny_pure h⟩))) htake)
    | exact wpAny_bind (wpAny_bind (m := Builtin.Tuple.tupleExact _) (wpAny_newObj_type (wpAny_pure (wpAny_pure ⟨_, rfl, wpAny_pure h⟩)) htake))
    | exact wpAny_bind (wpAny_bind (m := Builtin.Tuple.tupleExact _) (wpAny_newObj_type (wpAny_pure ⟨_, rfl, wpAny_pure h⟩) htake))
end
end HT
namespace L2
open PySem PySem.Spec PyProof.Rows
section
variable {X : Cx}
def tRevT (K : PySem.W.Frag) (te : TE) : TE := fun σ H Q => te σ H fun x H1 => ∃ a xs, x = .ref a ∧ SqT K H1 a xs ∧ ∀ p, H1 p = none → Q (.ref p) (upd H1 p (.tup xs.reverse))
theorem pe_revT {e : Expr} {te : TE} {k : Nat} {p1 p2 p3 pos : Pos} (he : PE X e te) : PE X (.Subscript e (.Slice none none (some (.UnaryOp .USub (.Constant (.int 1) k p1) p2)) p3) pos) (tRevT X.K te) := by
  refine ⟨fun pins s σ H Q I h => ?_⟩
  refine Subscript_ (thn (he.run pins s σ H _ I h) fun v s1 ⟨x, H1, I1, r1, q1⟩ => ?_)
  obtain ⟨a, xs, ex, hx, q⟩ := q1
  subst ex
  cases r1
  have hst : PO X (some (.UnaryOp .USub (.Constant (.int 1) k p1) p2)) (tPart (tUn (rU fun i => .int (-i)) (tC (.int 1)))) := po_some (pe_un un_neg pe_int)
  refine wpAny_Slice (thn (po_none.run pins s1 σ H1 (fun o H2 => o = none ∧ H2 = H1) I1 ⟨rfl, rfl⟩) fun vl s2 ⟨l, H2, I2, pl, el, e2⟩ => ?_)
  subst el e2
  refine thn (po_none.run pins s2 σ H2 (fun o H3 => o = none ∧ H3 = H2) I2 ⟨rfl, rfl⟩) fun vu s3 ⟨u, H3, I3, pu, eu, e3⟩ => ?_
  subst eu e3
  refine thn (hst.run pins s3 σ H3 (fun o H4 => o = some (-1) ∧ H4 = H3) I3 ⟨1, rfl, -1, rfl, rfl, rfl⟩) fun vs s4 ⟨o, H4, I4, ps, eo, e4⟩ => ?_
  subst eo e4
  have I5 : Inv X pins σ H4 { s4 with heap := s4.heap.push { cls := .type "slice", data := .fields #[vl, vu, vs] } } := I4.kept (t' := s4.toks) fun b ob q => Heap.get?_push_of_some _ q
  obtain ⟨its, r, ht, hz⟩ := I5.tuple hx
  have hlen := r.length
  show wpAny (model X.prog X.w) X.A (subscriptTail e (.Slice none none (some (.UnaryOp .USub (.Constant (.int 1) k p1) p2)) p3) (.ref a) (.ref s4.heap.objs.size)) (EP X pins σ Q) X.xe { s4 with heap := s4.heap.push { cls := .type "slice", data := .fields #[vl, vu, vs] } }
  refine tail_any (ops := [.ref a, .ref s4.heap.objs.size]) ht.typeIs PyProof.Rows.slot_tuple_getitem.lookup ?_ (by with_unfolding_all rfl)
  refine HT.getItem_tuple_rev ht (Heap.IsSliceOf.new _ vl vu vs) pl pu ps ?_ (by rw [List.size_toArray]; omega)
  refine ⟨.ref _, _, I5.laid (t' := s4.toks) (o := .tup xs.reverse) (fun b ob q => Heap.get?_push_of_some _ q) (Nat.le_refl _) ?_, rfl, q _ (I5.hok.fresh (Nat.le_refl _))⟩
  exact ⟨by rw [List.length_reverse]; exact hz, _, r.reverse, IsTup.new _ _⟩
end
namespace DL
section
variable {X : Cx} {W : WX} {e : Expr} {f : DE}
theorem PE.or {e : Expr} {u u' : TE} (h : PE X e u) (h' : PE X e u') : PE X e (fun σ H Q => u σ H Q ∨ u' σ H Q) := ⟨fun pins s σ H Q I q => q.elim (h.run pins s σ H Q I) (h'.run pins s σ H Q I)⟩
/-- x[::-1] -/
def oRev : Sto → D → Option D := fun S x => match x with
  | .tup ds => some (.tup ds.reverse)
  | d => (listOf S d).map fun ds => .lst ds.reverse
def dRev (f : DE) : DE := fun env S => (f env S).bind fun x S1 => lift (oRev S1 x) S1
theorem de_rev {k : Nat} {p1 p2 p3 pos : Pos} (he : PE X e (tE X W f)) : PE X (.Subscript e (.Slice none none (some (.UnaryOp .USub (.Constant (.int 1) k p1) p2)) p3) pos) (tE X W (dRev f)) := by
  refine PE.imp (PE.or (pe_revT he) (pe_revL he)) fun σ H Q q => ?_
  obtain ⟨r, t, S, env, rel, g⟩ := q
  unfold dRev at g
  cases h : f env S with
  | bad => rw [h] at g; exact (show False from g).elim
  | exc c S1 =>
    rw [h, Out.bind_exc] at g
    refine .inl ⟨r, t, S, env, rel, ?_⟩
    rw [h]
    exact g
  | ok d S1 =>
    rw [h, Out.bind_ok] at g
    obtain ⟨d', e1, g1⟩ := g.lift
    by_cases ht : ∃ ds, d = .tup ds
    · obtain ⟨ds, ed⟩ := ht
      subst ed
      cases e1
      refine .inl ⟨r, t, S, env, rel, ?_⟩
      rw [h]
      intro H1 r1 ex so v dv
      cases dv with
      | tup h1 z => exact ⟨_, _, rfl, sqT_of h1, fun p hp => g1 _ r1 (ex.trans (Ext.new hp)) (so.new hp) _ (.tup upd_same (DenL.ext (Ext.new (r := r1) hp) _ _ z.reverse))⟩
    · have e2 : (listOf S1 d).map (fun ds => D.lst ds.reverse) = some d' := by
        cases d <;> first | exact e1 | exact absurd ⟨_, rfl⟩ ht
      obtain ⟨ds, e3, e4⟩ := Option.map_eq_some_iff.mp e2
      subst e4
      refine .inr ⟨r, t, S, env, rel, ?_⟩
      rw [h]
      intro H1 r1 ex so v dv
      obtain ⟨a, xs, ev, hs, z⟩ := list_ok so dv e3
      have nn := fun p (hp : H1 p = none) => notinNew so hp
      exact ⟨a, xs, ev, hs, fun p hp => g1 _ r1 (ex.trans (Ext.new hp)) (so.new hp) _ (.lst upd_same (nn p hp).1 (nn p hp).2 (DenL.ext (Ext.new (r := r1) hp) _ _ z.reverse))⟩
end
end DL
end L2

set_option Elab.async false
set_option linter.all false
set_option maxRecDepth 100000
namespace L2
namespace DL
open PySem PySem.Spec PyProof.Rows

/-! ### a loop over a list that may be changed, and is not -/
open Classical in
noncomputable def keepC {A : Type} (n : Nat) (ds : List D) (S : Sto) (m : Out A) : Out A := if S[n]? = some (.lst ds) then m else .bad
noncomputable def forGoC (n : Nat) (ds0 : List D) (g : DG) (b : DS) : List D → Ev → Sto → Out (Fl × Ev)
  | [], env, S => keepC n ds0 S (.ok (.nx, env) S)
  | d :: ds, env, S => keepC n ds0 S (match g env d with
    | none => .bad
    | some env' => (b env' S).bind fun p S1 => match p.1 with
      | .nx => forGoC n ds0 g b ds p.2 S1
      | .ct => forGoC n ds0 g b ds p.2 S1
      | .bk => .ok (.nx, p.2) S1
      | .rt v => .ok (.rt v, p.2) S1)
noncomputable def sForC (f : DE) (g : DG) (b : DS) : DS := fun env S => (f env S).bind fun d S1 => match d, lstOf S1 d with
  | .ref n, some ds => forGoC n ds g b ds env S1
  | _, _ => .bad
section
variable {X : Cx} {E : XK} {f : DS} {fe : DE} {pos : Pos}
theorem Good.keepC {A : Type} {K : PySem.W.Frag} {mg : Str → Option Value} {t : List Addr} {Ex : Addr → Hp → Prop} {r : List Addr} {H : Hp} {n : Nat} {ds : List D} {S : Sto} {m : Out A} {R : A → Sto → List Addr → Hp → Prop}
    (g : Good K mg t Ex r H (DL.keepC n ds S m) R) : S[n]? = some (.lst ds) ∧ Good K mg t Ex r H m R := by
  unfold DL.keepC at g
  by_cases h : S[n]? = some (.lst ds)
  · rw [if_pos h] at g; exact ⟨h, g⟩
  · rw [if_neg h] at g; exact (show False from g).elim
theorem ds_forC {tg iter : Expr} {body : List Stmt} {gg : DG} {own : List Nat} (hp : PassesOwn (model X.prog X.w) X.A X.env X.xe) (hc : X.calm = true) (he : PE X iter (tE X (WC E) fe)) (hg : PG X tg (tG X.K X.mg own gg)) (hb : PSs X body (tS X E f))
    (hs : ∀ x, foldedSetIterable iter X.env x = pure x := by intro _; rfl) : PS X (.For tg iter body [] pos) (tS X E (sForC fe gg f)) := by
  refine PS.imp (ps_for hp hc (pi_list he) hg hb hs) fun D σ H q => ?_
  obtain ⟨r, t, S, env, rel, g0⟩ := q
  refine ⟨r, t, S, env, rel, g0.bind.mono fun d S1 r1 H1 ex so g1 v dv => ?_⟩
  split at g1
  · rename_i n ds hds
    obtain ⟨a, xs, ev, hn, ha, z⟩ := ref_lst so dv hds
    subst ev
    have hS1 : S1[n]? = some (.lst ds) := by
      unfold lstOf at hds
      dsimp only at hds
      split at hds
      · rename_i es h; cases hds; exact h
      · cases hds
    refine ⟨a, rfl, ⟨xs, .inl (.inl ha)⟩, fun i m σ2 H2 => m = ds.length - i ∧ i ≤ ds.length ∧ ∃ r2 S2 env2, r2[n]? = some a ∧ Rel X.K X.mg H2 r2 t S2 env2 σ2 ∧ Good X.K X.mg t (EC E) r2 H2 (forGoC n ds gg f (ds.drop i) env2 S2) (RS X D t), ⟨ds.length, by simp, Nat.zero_le _, r1, S1, env, hn, rel.ext ex so, g1⟩, ?_⟩
    rintro i m σ2 H2 ⟨rfl, hi, r2, S2, env2, hn2, rel2, g2⟩
    by_cases hlt : i < ds.length
    · rw [List.drop_eq_getElem_cons hlt] at g2
      unfold forGoC at g2
      obtain ⟨hS2, g2⟩ := g2.keepC
      obtain ⟨b, ys, eb, hb2, hys, z2⟩ := ref_lst rel2.so (.ref hn2) (lst_ref hS2)
      cases eb
      obtain ⟨u, hu, du⟩ := z2.get (List.getElem?_eq_getElem hlt)
      cases hE : gg env2 ds[i] with
      | none => rw [hE] at g2; exact (show False from g2).elim
      | some env' =>
        rw [hE] at g2
        dsimp only at g2
        refine .inr ⟨⟨ys, u, .inl (.inl hys), hu⟩, fun σ3 H3 => ∃ m', m' < ds.length - i ∧ m' = ds.length - (i + 1) ∧ i + 1 ≤ ds.length ∧ ∃ r2 S2 env2, r2[n]? = some a ∧ Rel X.K X.mg H3 r2 t S2 env2 σ3 ∧ Good X.K X.mg t (EC E) r2 H3 (forGoC n ds gg f (ds.drop (i + 1)) env2 S2) (RS X D t), fun σ' H' h => h, fun x H' y => ?_⟩
        obtain ⟨eH, hx⟩ := y
        subst eH
        have ex1 := Option.some.inj ((hx ys (.inl (.inl hys))).symm.trans hu)
        subst ex1
        refine ⟨r2, t, S2, env2, ds[i], rel2, du, env', hE, fun σ3 rel3 _ => ?_⟩
        refine ⟨r2, t, S2, env', rel3, g2.bind.mono fun p S4 r4 H4 ex4 so4 g4 σ4 rel4 => ?_⟩
        obtain ⟨fl, env4⟩ := p
        cases fl with
        | nx => exact ⟨ds.length - (i + 1), by omega, rfl, hlt, r4, S4, env4, ex4.get hn2, rel4, g4⟩
        | ct => exact ⟨ds.length - (i + 1), by omega, rfl, hlt, r4, S4, env4, ex4.get hn2, rel4, g4⟩
        | bk => exact Good.here g4 so4 σ4 rel4
        | rt d => exact Good.here g4 so4 σ4 rel4
    · have e : i = ds.length := by omega
      subst e
      rw [List.drop_length] at g2
      unfold forGoC at g2
      obtain ⟨hS2, g2⟩ := g2.keepC
      obtain ⟨b, ys, eb, hb2, hys, z2⟩ := ref_lst rel2.so (.ref hn2) (lst_ref hS2)
      cases eb
      exact .inl ⟨⟨ys, .inl (.inl hys), by rw [z2.length]; exact Nat.le_refl _⟩, Good.here g2 rel2.so σ2 rel2⟩
  · exact (show False from g1).elim
end
theorem forGoC_all {n : Nat} {ds0 : List D} {g : DG} {b : DS} {P : Fl × Ev → Sto → Prop} (I : List D → Ev → Sto → Prop) : ∀ (ds : List D) (env : Ev) (S : Sto), I ds env S →
    (∀ ds env S, I ds env S → S[n]? = some (.lst ds0)) →
    (∀ d rest env S, I (d :: rest) env S → ∃ env1, g env d = some env1 ∧ Wp (b env1 S) fun p S' => match p.1 with | .nx => I rest p.2 S' | .ct => I rest p.2 S' | .bk => P (.nx, p.2) S' | .rt v => P (.rt v, p.2) S') →
    (∀ env S, I [] env S → P (.nx, env) S) → Wp (forGoC n ds0 g b ds env S) P
  | [], env, S, h, hk, _, hf => by
    unfold forGoC keepC
    rw [if_pos (hk _ _ _ h)]
    exact Wp.of rfl (hf env S h)
  | d :: ds, env, S, h, hk, hs, hf => by
    obtain ⟨env1, e1, w⟩ := hs d ds env S h
    unfold forGoC keepC
    rw [if_pos (hk _ _ _ h), e1]
    dsimp only
    rw [wp_bind]
    refine w.mono fun p S' q => ?_
    obtain ⟨fl, env2⟩ := p
    cases fl with
    | nx => exact forGoC_all I ds env2 S' q hk hs hf
    | ct => exact forGoC_all I ds env2 S' q hk hs hf
    | bk => exact Wp.of rfl q
    | rt v => exact Wp.of rfl q
def kForC (g : DG) (b : DS) (env : Ev) (P : Fl × Ev → Sto → Prop) (d : D) (S : Sto) : Prop := ∃ n ds, d = .ref n ∧ S[n]? = some (.lst ds) ∧ Wp (forGoC n ds g b ds env S) P
theorem w_ForC {f : DE} {g : DG} {b : DS} {env : Ev} {S : Sto} {P : Fl × Ev → Sto → Prop} (h : Wp (f env S) (kForC g b env P)) : Wp (sForC f g b env S) P := by
  unfold sForC
  rw [wp_bind]
  refine h.mono fun d S1 q => ?_
  obtain ⟨n, ds, e, hn, w⟩ := q
  subst e
  rw [lst_ref hn]
  exact w

/-! ### what a def gives back is changed no more -/
section
variable {K : PySem.W.Frag} {mg : Str → Option Value} {H H' : Hp} {r t nw : List Addr}
mutual
def ltD (k : Nat) : D → Bool
  | .tup ds => ltL k ds
  | .lst ds => ltL k ds
  | .fz ds => ltL k ds
  | .ref n => decide (n < k)
  | _ => true
def ltL (k : Nat) : List D → Bool
  | [] => true
  | d :: ds => ltD k d && ltL k ds
end
mutual
theorem Den.lt : ∀ (d : D) (v : V), Den K H r t v d → ltD r.length d = true
  | .non, _, _ => rfl
  | .bl _, _, _ => rfl
  | .int _, _, _ => rfl
  | .str _, _, _ => rfl
  | .ty _, _, _ => rfl
  | .tup ds, _, h => by cases h with | tup h z => exact DenL.lt ds _ z
  | .lst ds, _, h => by cases h with | lst h n m z => exact DenL.lt ds _ z
  | .fz ds, _, h => by cases h with | fz h z => exact DenL.lt ds _ z
  | .ref n, _, h => by cases h with | ref h => exact decide_eq_true (List.getElem?_eq_some_iff.mp h).1
theorem DenL.lt : ∀ (ds : List D) (vs : List V), DenL K H r t vs ds → ltL r.length ds = true
  | [], _, _ => rfl
  | d :: ds, _, h => by
    cases h with
    | cons h1 h2 =>
      show (ltD r.length d && ltL r.length ds) = true
      rw [Den.lt d _ h1, DenL.lt ds _ h2]
      rfl
end
mutual
theorem Den.back : ∀ (d : D) (v : V), Den K H (r ++ nw) t v d → ltD r.length d = true → Den K H r t v d
  | .non, _, h, _ => by cases h; exact .non
  | .bl b, _, h, _ => by cases h; exact .bl b
  | .int i, _, h, _ => by cases h; exact .int i
  | .str x, _, h, _ => by cases h; exact .str x
  | .ty n, _, h, _ => by cases h; exact .ty n
  | .tup ds, _, h, l => by cases h with | tup h z => exact .tup h (DenL.back ds _ z l)
  | .lst ds, _, h, l => by cases h with | lst h n m z => exact .lst h (fun q => n (List.mem_append_left _ q)) m (DenL.back ds _ z l)
  | .fz ds, _, h, l => by cases h with | fz h z => exact .fz h (DenL.back ds _ z l)
  | .ref n, _, h, l => by
    cases h with
    | ref h =>
      rw [List.getElem?_append_left (of_decide_eq_true l)] at h
      exact .ref h
theorem DenL.back : ∀ (ds : List D) (vs : List V), DenL K H (r ++ nw) t vs ds → ltL r.length ds = true → DenL K H r t vs ds
  | [], _, h, _ => by cases h; exact .nil
  | d :: ds, _, h, l => by
    have l' : (ltD r.length d && ltL r.length ds) = true := l
    rw [Bool.and_eq_true] at l'
    cases h with
    | cons h1 h2 => exact .cons (Den.back d _ h1 l'.1) (DenL.back ds _ h2 l'.2)
end
def ltC (k : Nat) : Cell → Bool
  | .lst ds => ltL k ds
  | .dK kvs => ltL k (kvs.map (·.2))
  | .dT kvs => ltL k (kvs.map (·.2))
  | .ins _ fs => ltL k (fs.map (·.2))
  | .exc _ => true
  | .fK kvs => ltL k (kvs.map (·.2))
  | .fT kvs => ltL k (kvs.map (·.2))
theorem CellOk.lt {a : Addr} {c : Cell} (h : CellOk K mg H r t a c) : ltC r.length c = true := by
  cases c with
  | lst ds => obtain ⟨xs, _, z⟩ := h; exact DenL.lt _ _ z
  | dK ds => obtain ⟨xs, _, z⟩ := h; exact DenL.lt _ _ z.2
  | dT ds => obtain ⟨xs, _, z⟩ := h; exact DenL.lt _ _ z.2
  | ins c fs => obtain ⟨C, dx, ps, _, _, _, z⟩ := h; exact DenL.lt _ _ z.2
  | exc c => rfl
  | fK ds => obtain ⟨o, xs, _, z⟩ := h; exact DenL.lt _ _ z.2
  | fT ds => obtain ⟨o, xs, _, z⟩ := h; exact DenL.lt _ _ z.2
theorem CellOk.back {a : Addr} {c : Cell} (h : CellOk K mg H (r ++ nw) t a c) (l : ltC r.length c = true) : CellOk K mg H r t a c := by
  cases c with
  | lst ds => obtain ⟨xs, h1, z⟩ := h; exact ⟨xs, h1, DenL.back _ _ z l⟩
  | dK ds => obtain ⟨xs, h1, z⟩ := h; exact ⟨xs, h1, z.1, DenL.back _ _ z.2 l⟩
  | dT ds => obtain ⟨xs, h1, z⟩ := h; exact ⟨xs, h1, z.1, DenL.back _ _ z.2 l⟩
  | ins c fs => obtain ⟨C, dx, ps, h1, h2, h3, z⟩ := h; exact ⟨C, dx, ps, h1, h2, h3, z.1, DenL.back _ _ z.2 l⟩
  | exc c => exact h
  | fK ds => obtain ⟨o, xs, h1, z⟩ := h; exact ⟨o, xs, h1, z.1, DenL.back _ _ z.2 l⟩
  | fT ds => obtain ⟨o, xs, h1, z⟩ := h; exact ⟨o, xs, h1, z.1, DenL.back _ _ z.2 l⟩
-- new lists are taken as they are
mutual
def mapD (go : Nat → Option D) : D → Option D
  | .tup ds => (mapL go ds).map .tup
  | .lst ds => (mapL go ds).map .lst
  | .fz ds => (mapL go ds).map .fz
  | .ref n => go n
  | d => some d
def mapL (go : Nat → Option D) : List D → Option (List D)
  | [] => some []
  | d :: ds => match mapD go d, mapL go ds with
    | some e, some es => some (e :: es)
    | _, _ => none
end
def rsv (k : Nat) (S : Sto) : Nat → Nat → Option D
  | 0, n => if n < k then some (.ref n) else none
  | f + 1, n => if n < k then some (.ref n) else match S[n]? with
    | some (.lst ds) => (mapL (rsv k S f) ds).map .lst
    | _ => none
mutual
theorem mapD_ok {go : Nat → Option D} (hg : ∀ n a d, (r ++ nw)[n]? = some a → go n = some d → Den K H r t (.ref a) d) : ∀ (d e : D) (v : V), Den K H (r ++ nw) t v d → mapD go d = some e → Den K H r t v e
  | .non, _, _, h, q => by cases h; cases q; exact .non
  | .bl b, _, _, h, q => by cases h; cases q; exact .bl b
  | .int i, _, _, h, q => by cases h; cases q; exact .int i
  | .str x, _, _, h, q => by cases h; cases q; exact .str x
  | .ty n, _, _, h, q => by cases h; cases q; exact .ty n
  | .tup ds, _, _, h, q => by
    obtain ⟨es, q1, q2⟩ := Option.map_eq_some_iff.mp (show (mapL go ds).map D.tup = some _ from q)
    subst q2
    cases h with | tup h z => exact .tup h (mapL_ok hg ds es _ z q1)
  | .lst ds, _, _, h, q => by
    obtain ⟨es, q1, q2⟩ := Option.map_eq_some_iff.mp (show (mapL go ds).map D.lst = some _ from q)
    subst q2
    cases h with | lst h n m z => exact .lst h (fun q => n (List.mem_append_left _ q)) m (mapL_ok hg ds es _ z q1)
  | .fz ds, _, _, h, q => by
    obtain ⟨es, q1, q2⟩ := Option.map_eq_some_iff.mp (show (mapL go ds).map D.fz = some _ from q)
    subst q2
    cases h with | fz h z => exact .fz h (mapL_ok hg ds es _ z q1)
  | .ref n, e, _, h, q => by cases h with | ref h => exact hg n _ e h q
theorem mapL_ok {go : Nat → Option D} (hg : ∀ n a d, (r ++ nw)[n]? = some a → go n = some d → Den K H r t (.ref a) d) : ∀ (ds es : List D) (vs : List V), DenL K H (r ++ nw) t vs ds → mapL go ds = some es → DenL K H r t vs es
  | [], _, _, h, q => by cases h; cases q; exact .nil
  | d :: ds, _, _, h, q => by
    unfold mapL at q
    split at q
    · rename_i e es q1 q2
      cases q
      cases h with
      | cons h1 h2 => exact .cons (mapD_ok hg d e _ h1 q1) (mapL_ok hg ds es _ h2 q2)
    · cases q
end
theorem rsv_ok {S : Sto} (so : SOk K mg H (r ++ nw) t S) : ∀ (f n : Nat) (a : Addr) (d : D), (r ++ nw)[n]? = some a → rsv r.length S f n = some d → Den K H r t (.ref a) d
  | 0, n, a, d, h, q => by
    unfold rsv at q
    split at q
    · rename_i hn
      cases q
      rw [List.getElem?_append_left hn] at h
      exact .ref h
    · cases q
  | f + 1, n, a, d, h, q => by
    unfold rsv at q
    split at q
    · rename_i hn
      cases q
      rw [List.getElem?_append_left hn] at h
      exact .ref h
    · rename_i hn
      split at q
      · rename_i ds hds
        obtain ⟨es, q1, q2⟩ := Option.map_eq_some_iff.mp q
        subst q2
        obtain ⟨xs, h1, z⟩ := so.ok n a _ h hds
        refine .lst h1 (fun z => ?_) (fun z => (so.hid a z).2 (List.mem_of_getElem? h)) (mapL_ok (rsv_ok so f) ds es xs z q1)
        obtain ⟨i, hi, e⟩ := List.getElem_of_mem z
        have e2 : (r ++ nw)[i]? = some a := by rw [List.getElem?_append_left hi, List.getElem?_eq_getElem hi, e]
        have := nodup_get so.nd e2 h
        omega
      · cases q
end
open Classical in
noncomputable def frzF (f : Fn) : Fn := fun ds S => match f ds S with
  | .ok d S1 => if ∀ j c, j < S.length → S1[j]? = some c → S[j]? = some c ∨ ltC S.length c = true then match mapD (rsv S.length S1 64) d with
      | some e => .ok e (S1.take S.length)
      | none => .bad
    else .bad
  | .exc c S1 => if ∀ j c, j < S.length → S1[j]? = some c → S[j]? = some c ∨ ltC S.length c = true then .exc c (S1.take S.length) else .bad
  | .bad => .bad
section
variable {K : PySem.W.Frag} {mg : Str → Option Value} {H H' : Hp} {r r' t : List Addr} {S S1 : Sto}
theorem so_drop (so : SOk K mg H r t S) (ex : Ext r H r' H') (so1 : SOk K mg H' r' t S1) (hc : ∀ j c, j < S.length → S1[j]? = some c → S[j]? = some c ∨ ltC S.length c = true) :
    ∃ nw, r' = r ++ nw ∧ Ext r H r H' ∧ SOk K mg H' r t (S1.take S.length) := by
  obtain ⟨nw, e, hn⟩ := ex.pre
  subst e
  have hl : (r ++ nw).length = S1.length := so1.len
  rw [List.length_append] at hl
  have hrl := so.len
  refine ⟨nw, rfl, ⟨⟨[], by simp⟩, ex.keep, ex.tups, ex.frzs, ex.owns, ex.there⟩, ⟨by rw [List.length_take]; omega, (List.nodup_append.mp so1.nd).1, fun n a c h1 h2 => ?_, fun a ha => ⟨(so1.hid a ha).1, fun z => (so1.hid a ha).2 (List.mem_append_left _ z)⟩⟩⟩
  have hn1 := (List.getElem?_eq_some_iff.mp h1).1
  rw [List.getElem?_take, if_pos (by omega)] at h2
  have ok := so1.ok n a c (by rw [List.getElem?_append_left hn1]; exact h1) h2
  refine ok.back ?_
  rcases hc n c (by omega) h2 with q | q
  · exact (so.ok n a c h1 q).lt
  · rw [hrl]; exact q
theorem spD_frz {n : Nat} {f : Fn} : ∀ vs H Q E, spD K mg n (frzF f) vs H Q E → spD K mg n f vs H Q E := fun vs H Q E q => by
  obtain ⟨h1, r, t, S, ds, so, z, g⟩ := q
  refine ⟨h1, r, t, S, ds, so, z, ?_⟩
  unfold frzF at g
  cases hf : f ds S with
  | bad => rw [hf] at g; exact (show False from g).elim
  | exc c S1 =>
    rw [hf] at g
    dsimp only at g
    intro C H1 r1 hC ex so1
    by_cases hc : ∀ j c, j < S.length → S1[j]? = some c → S[j]? = some c ∨ ltC S.length c = true
    · rw [if_pos hc] at g
      obtain ⟨nw, e, ex2, so2⟩ := so_drop so ex so1 hc
      exact g C H1 r hC ex2 so2
    · rw [if_neg hc] at g; exact (show False from g).elim
  | ok d S1 =>
    rw [hf] at g
    dsimp only at g
    intro H1 r1 ex so1 v dv
    by_cases hc : ∀ j c, j < S.length → S1[j]? = some c → S[j]? = some c ∨ ltC S.length c = true
    · rw [if_pos hc] at g
      obtain ⟨nw, e, ex2, so2⟩ := so_drop so ex so1 hc
      subst e
      split at g
      · rename_i e he
        refine g H1 r ex2 so2 v (mapD_ok (nw := nw) (rsv_ok so1 64) d e v dv ?_)
        rw [so.len]
        exact he
      · exact (show False from g).elim
    · rw [if_neg hc] at g; exact (show False from g).elim
theorem Callee.frz {P : Program} {w : World} {base : Heap} {CX : CXT} {k n : Nat} {x : Str} {fn : Fn} (c : Callee P w K mg base CX k x n fn) : Callee P w K mg base CX k x n (frzF fn) := by
  obtain ⟨f, fd, ps, F, a, b, d⟩ := c
  exact ⟨f, fd, ps, F.imp spD_frz, a, b, d⟩
end
theorem wp_frz {f : Fn} {ds : List D} {S : Sto} {P : D → Sto → Prop} (h : Wp (f ds S) fun d S1 => (∀ j c, j < S.length → S1[j]? = some c → S[j]? = some c ∨ ltC S.length c = true) ∧ ∃ e, mapD (rsv S.length S1 64) d = some e ∧ P e (S1.take S.length)) : Wp (frzF f ds S) P := by
  obtain ⟨d, S1, e, hc, e2, h2, p⟩ := h.get
  unfold frzF
  rw [e]
  dsimp only
  rw [if_pos hc, h2]
  exact Wp.of rfl p
-- a list of plain things stays what it is
mutual
theorem mapD_id {go : Nat → Option D} : ∀ d : D, ltD 0 d = true → mapD go d = some d
  | .non, _ => rfl
  | .bl _, _ => rfl
  | .int _, _ => rfl
  | .str _, _ => rfl
  | .ty _, _ => rfl
  | .tup ds, h => by show (mapL go ds).map D.tup = _; rw [mapL_id ds h]; rfl
  | .lst ds, h => by show (mapL go ds).map D.lst = _; rw [mapL_id ds h]; rfl
  | .fz ds, h => by show (mapL go ds).map D.fz = _; rw [mapL_id ds h]; rfl
  | .ref n, h => by exact absurd (of_decide_eq_true (show decide (n < 0) = true from h)) (Nat.not_lt_zero n)
theorem mapL_id {go : Nat → Option D} : ∀ ds : List D, ltL 0 ds = true → mapL go ds = some ds
  | [], _ => rfl
  | d :: ds, h => by
    have h' : (ltD 0 d && ltL 0 ds) = true := h
    rw [Bool.and_eq_true] at h'
    unfold mapL
    rw [mapD_id d h'.1, mapL_id ds h'.2]
end
end DL
end L2

set_option Elab.async false
set_option linter.all false
set_option maxRecDepth 100000
namespace L2
namespace DL
open PySem PySem.Spec PyProof.Rows

/-! ### equality of plain things -/
mutual
def plD : Nat → D → Bool
  | _, .non => true
  | _, .int _ => true
  | _, .str x => PyData.strOk x
  | n + 1, .tup ds => plL n ds
  | n + 1, .lst ds => plL n ds
  | _, _ => false
def plL : Nat → List D → Bool
  | _, [] => true
  | n, d :: ds => plD n d && plL n ds
end
mutual
def noB : PyData → Bool
  | .bool _ => false
  | .list xs => noBs xs
  | .tuple xs => noBs xs
  | .dict _ => false
  | _ => true
def noBs : List PyData → Bool
  | [] => true
  | x :: xs => noB x && noBs xs
end
structure PyOk (n : Nat) (p : PyData) : Prop where
  lay : p.canLay0 = true
  dep : p.depth ≤ n
  nob : noB p = true
structure PysOk (n : Nat) (ps : List PyData) : Prop where
  lay : PyData.canLayAll0 ps = true
  dep : PyData.depthAll ps ≤ n
  nob : noBs ps = true
mutual
theorem plD_py : ∀ (n : Nat) (d : D), plD n d = true → ∃ p, toPy d = some p ∧ PyOk n p
  | n, .non, _ => ⟨.none, rfl, rfl, Nat.zero_le _, rfl⟩
  | n, .int i, _ => ⟨.int i, rfl, rfl, Nat.zero_le _, rfl⟩
  | n, .str x, h => ⟨.str x, rfl, by cases n <;> exact h, Nat.zero_le _, rfl⟩
  | n + 1, .tup ds, h => by
    obtain ⟨ps, e, o⟩ := plL_py n ds h
    refine ⟨.tuple ps, ?_, o.lay, Nat.succ_le_succ o.dep, o.nob⟩
    unfold toPy
    rw [e]
  | n + 1, .lst ds, h => by
    obtain ⟨ps, e, o⟩ := plL_py n ds h
    refine ⟨.list ps, ?_, o.lay, Nat.succ_le_succ o.dep, o.nob⟩
    unfold toPy
    rw [e]
  | 0, .tup _, h => by cases h
  | 0, .lst _, h => by cases h
  | 0, .bl _, h => by cases h
  | _ + 1, .bl _, h => by cases h
  | 0, .fz _, h => by cases h
  | _ + 1, .fz _, h => by cases h
  | 0, .ref _, h => by cases h
  | _ + 1, .ref _, h => by cases h
  | 0, .ty _, h => by cases h
  | _ + 1, .ty _, h => by cases h
theorem plL_py : ∀ (n : Nat) (ds : List D), plL n ds = true → ∃ ps, toPyL ds = some ps ∧ PysOk n ps
  | n, [], _ => ⟨[], rfl, rfl, Nat.zero_le _, rfl⟩
  | n, d :: ds, h => by
    have h' : (plD n d && plL n ds) = true := h
    rw [Bool.and_eq_true] at h'
    obtain ⟨p, e1, o1⟩ := plD_py n d h'.1
    obtain ⟨ps, e2, o2⟩ := plL_py n ds h'.2
    refine ⟨p :: ps, ?_, ?_, Nat.max_le.mpr ⟨o1.dep, o2.dep⟩, ?_⟩
    · unfold toPyL
      rw [e1, e2]
    · show (p.canLay0 && PyData.canLayAll0 ps) = true
      rw [o1.lay, o2.lay]
      rfl
    · show (noB p && noBs ps) = true
      rw [o1.nob, o2.nob]
      rfl
end
mutual
theorem eqv_iff : ∀ p q : PyData, noB p = true → noB q = true → (PyData.eqv p q = true ↔ p = q)
  | .none, q, _, hq => by cases q <;> simp [PyData.eqv]
  | .int i, q, _, hq => by cases q <;> first | (cases hq; done) | simp [PyData.eqv]
  | .str i, q, _, hq => by cases q <;> first | (cases hq; done) | simp [PyData.eqv]
  | .list xs, q, hp, hq => by
    cases q with
    | list ys =>
      have := eqvs_iff xs ys hp hq
      simp only [PyData.eqv, this]
      exact ⟨fun h => by rw [h], fun h => PyData.list.inj h⟩
    | _ => first | (cases hq; done) | simp [PyData.eqv]
  | .tuple xs, q, hp, hq => by
    cases q with
    | tuple ys =>
      have := eqvs_iff xs ys hp hq
      simp only [PyData.eqv, this]
      exact ⟨fun h => by rw [h], fun h => PyData.tuple.inj h⟩
    | _ => first | (cases hq; done) | simp [PyData.eqv]
  | .bool _, _, h, _ => by cases h
  | .dict _, _, h, _ => by cases h
theorem eqvs_iff : ∀ xs ys : List PyData, noBs xs = true → noBs ys = true → (PyData.eqvAll xs ys = true ↔ xs = ys)
  | [], [], _, _ => by simp [PyData.eqvAll]
  | [], _ :: _, _, _ => by simp [PyData.eqvAll]
  | _ :: _, [], _, _ => by simp [PyData.eqvAll]
  | x :: xs, y :: ys, h, k => by
    have h' : (noB x && noBs xs) = true := h
    have k' : (noB y && noBs ys) = true := k
    rw [Bool.and_eq_true] at h' k'
    simp only [PyData.eqvAll, Bool.and_eq_true, eqv_iff x y h'.1 k'.1, eqvs_iff xs ys h'.2 k'.2, List.cons.injEq]
end
mutual
theorem toPy_inj : ∀ (n m : Nat) (d e : D) (p : PyData), plD n d = true → plD m e = true → toPy d = some p → toPy e = some p → d = e
  | n, m, .non, e, p, _, he, h1, h2 => by
    cases h1
    cases e <;> first | rfl | (cases h2; done) | (unfold toPy at h2; split at h2 <;> cases h2)
  | n, m, .int i, e, p, _, he, h1, h2 => by
    cases h1
    cases e <;> first | (cases h2; rfl) | (cases h2; done) | (unfold toPy at h2; split at h2 <;> cases h2)
  | n, m, .str i, e, p, _, he, h1, h2 => by
    cases h1
    cases e <;> first | (cases h2; rfl) | (cases h2; done) | (unfold toPy at h2; split at h2 <;> cases h2)
  | n + 1, m, .tup ds, e, p, hd, he, h1, h2 => by
    unfold toPy at h1
    split at h1
    · rename_i ps e1
      cases h1
      cases e with
      | tup es =>
        unfold toPy at h2
        split at h2
        · rename_i qs e2
          cases h2
          cases m with
          | zero => cases he
          | succ m => rw [toPyL_inj n m ds es _ hd he e1 e2]
        · cases h2
      | lst es => unfold toPy at h2; split at h2 <;> cases h2
      | fz es => unfold toPy at h2; split at h2 <;> cases h2
      | _ => cases h2
    · cases h1
  | n + 1, m, .lst ds, e, p, hd, he, h1, h2 => by
    unfold toPy at h1
    split at h1
    · rename_i ps e1
      cases h1
      cases e with
      | lst es =>
        unfold toPy at h2
        split at h2
        · rename_i qs e2
          cases h2
          cases m with
          | zero => cases he
          | succ m => rw [toPyL_inj n m ds es _ hd he e1 e2]
        · cases h2
      | tup es => unfold toPy at h2; split at h2 <;> cases h2
      | fz es => cases m <;> cases he
      | _ => cases h2
    · cases h1
  | 0, _, .tup _, _, _, h, _, _, _ => by cases h
  | 0, _, .lst _, _, _, h, _, _, _ => by cases h
  | 0, _, .bl _, _, _, h, _, _, _ => by cases h
  | _ + 1, _, .bl _, _, _, h, _, _, _ => by cases h
  | 0, _, .fz _, _, _, h, _, _, _ => by cases h
  | _ + 1, _, .fz _, _, _, h, _, _, _ => by cases h
  | 0, _, .ref _, _, _, h, _, _, _ => by cases h
  | _ + 1, _, .ref _, _, _, h, _, _, _ => by cases h
  | 0, _, .ty _, _, _, h, _, _, _ => by cases h
  | _ + 1, _, .ty _, _, _, h, _, _, _ => by cases h
theorem toPyL_inj : ∀ (n m : Nat) (ds es : List D) (ps : List PyData), plL n ds = true → plL m es = true → toPyL ds = some ps → toPyL es = some ps → ds = es
  | n, m, [], es, ps, _, _, h1, h2 => by
    cases h1
    cases es with
    | nil => rfl
    | cons e es => unfold toPyL at h2; split at h2 <;> cases h2
  | n, m, d :: ds, es, ps, hd, he, h1, h2 => by
    have hd' : (plD n d && plL n ds) = true := hd
    rw [Bool.and_eq_true] at hd'
    unfold toPyL at h1
    split at h1
    · rename_i p ps a1 a2
      cases h1
      cases es with
      | nil => cases h2
      | cons e es =>
        have he' : (plD m e && plL m es) = true := he
        rw [Bool.and_eq_true] at he'
        unfold toPyL at h2
        split at h2
        · rename_i q qs b1 b2
          cases h2
          rw [toPy_inj n m d e _ hd'.1 he'.1 a1 b1, toPyL_inj n m ds es _ hd'.2 he'.2 a2 b2]
        · cases h2
    · cases h1
end
theorem shaped_ok {p : PyData} (h : PyOk 64 p) : SeqAt.shaped p = true := by
  show (p.canLay0 && decide (p.depth ≤ 64)) = true
  rw [h.lay, decide_eq_true h.dep]
  rfl
open Classical in
theorem eqD_pl {S : Sto} {x y : D} (neg : Bool) (hx : plD 64 x = true) (hy : plD 64 y = true) : oEqD neg S x y = some (.bl (neg ^^ decide (x = y))) := by
  have tx : topD S x = x := by cases x <;> first | rfl | cases hx
  have ty : topD S y = y := by cases y <;> first | rfl | cases hy
  obtain ⟨p, e1, o1⟩ := plD_py 64 x hx
  obtain ⟨q, e2, o2⟩ := plD_py 64 y hy
  unfold oEqD
  rw [tx, ty, e1, e2]
  dsimp only
  rw [shaped_ok o1, shaped_ok o2, Bool.and_self, if_pos rfl]
  have : PyData.eqv p q = decide (x = y) := by
    rw [Bool.eq_iff_iff, eqv_iff p q o1.nob o2.nob, decide_eq_true_eq]
    exact ⟨fun h => toPy_inj 64 64 x y p hx hy e1 (by rw [e2, h]), fun h => by subst h; rw [e1] at e2; exact Option.some.inj e2⟩
  rw [this]
def compD : D → Bool
  | .tup _ => true
  | .lst _ => true
  | _ => false
open Classical in
theorem eq_pl {S : Sto} {x y : D} (hc : (compD x || compD y) = true) (hx : plD 64 x = true) (hy : plD 64 y = true) : oEq S x y = some (.bl (decide (x = y))) := by
  refine (orO_none ?_).trans ((eqD_pl false hx hy).trans (by rw [Bool.false_xor]))
  cases x <;> cases y <;> first | rfl | (cases hc; done) | (cases hx; done) | (cases hy; done)
open Classical in
theorem ne_pl {S : Sto} {x y : D} (hc : (compD x || compD y) = true) (hx : plD 64 x = true) (hy : plD 64 y = true) : oNe S x y = some (.bl (!decide (x = y))) := by
  refine (orO_none ?_).trans ((eqD_pl true hx hy).trans (by rw [Bool.true_xor]))
  cases x <;> cases y <;> first | rfl | (cases hc; done) | (cases hx; done) | (cases hy; done)
theorem plL_mem {n : Nat} : ∀ {ds : List D}, (∀ d ∈ ds, plD n d = true) → plL n ds = true
  | [], _ => by cases n <;> rfl
  | d :: ds, h => by
    have : plL n (d :: ds) = (plD n d && plL n ds) := by cases n <;> rfl
    rw [this, h d List.mem_cons_self, plL_mem fun d hd => h d (List.mem_cons_of_mem _ hd)]
    rfl
theorem plL_of {n : Nat} : ∀ {ds : List D}, plL n ds = true → ∀ d ∈ ds, plD n d = true
  | [], _, d, hd => by cases hd
  | x :: ds, h, d, hd => by
    have e : plL n (x :: ds) = (plD n x && plL n ds) := by cases n <;> rfl
    rw [e, Bool.and_eq_true] at h
    rcases List.mem_cons.mp hd with q | q
    · rw [q]; exact h.1
    · exact plL_of h.2 d q
open Classical in
theorem inD_pl {S : Sto} {x : D} {ys : List D} (neg : Bool) (hx : plD 64 x = true) (hy : plL 63 ys = true) : oInD neg S x (.lst ys) = some (.bl (neg ^^ decide (x ∈ ys))) := by
  obtain ⟨p, e1, o1⟩ := plD_py 64 x hx
  obtain ⟨qs, e2, o2⟩ := plL_py 63 ys hy
  have sq : SeqAt.shaped (.list qs) = true := shaped_ok ⟨o2.lay, Nat.succ_le_succ o2.dep, o2.nob⟩
  have e3 : toPy (topD S (.lst ys)) = some (.list qs) := by
    show toPy (.lst ys) = _
    unfold toPy
    rw [e2]
  unfold oInD
  rw [e1, e3]
  dsimp only
  rw [shaped_ok o1, sq, Bool.and_self, if_pos rfl]
  have : (qs.any fun z => PyData.eqv z p) = decide (x ∈ ys) := by
    clear sq e3
    rw [Bool.eq_iff_iff, decide_eq_true_eq]
    induction ys generalizing qs with
    | nil => cases e2; simp
    | cons y ys ih =>
      have hy' := plL_of hy
      unfold toPyL at e2
      split at e2
      · rename_i q qs b1 b2
        cases e2
        have hyy := hy' y List.mem_cons_self
        obtain ⟨q', c1, c2⟩ := plD_py 63 y hyy
        rw [b1] at c1
        cases c1
        have n2 := o2.nob
        have n2' : (noB q && noBs qs) = true := n2
        rw [Bool.and_eq_true] at n2'
        have o3 : PysOk 63 qs := by
          obtain ⟨l, d, _⟩ := o2
          have l' : (q.canLay0 && PyData.canLayAll0 qs) = true := l
          rw [Bool.and_eq_true] at l'
          exact ⟨l'.2, (Nat.max_le.mp d).2, n2'.2⟩
        have ih' := ih (plL_mem fun d hd => hy' d (List.mem_cons_of_mem _ hd)) qs b2 o3
        rw [List.any_cons, Bool.or_eq_true, ih', List.mem_cons, eqv_iff q p n2'.1 o1.nob]
        refine or_congr ⟨fun h => ?_, fun h => ?_⟩ Iff.rfl
        · exact toPy_inj 64 63 x y p hx hyy e1 (by rw [b1, h])
        · subst h; rw [b1] at e1; exact Option.some.inj e1
      · cases e2
  rw [this]
open Classical in
theorem in_pl {S : Sto} {x : D} {ys : List D} (neg : Bool) (hc : compD x = true) (hx : plD 64 x = true) (hy : plL 63 ys = true) : oIn neg S x (.lst ys) = some (.bl (neg ^^ decide (x ∈ ys))) := by
  refine (orO_none ?_).trans (orO_some (inD_pl neg hx hy))
  cases x <;> first | rfl | cases hc
/-- ints in a row of ints -/
theorem flDL_ints : ∀ ns : List Int, flDL (ns.map D.int) = some (ns.map V.int)
  | [] => rfl
  | n :: ns => by
    rw [List.map_cons]
    unfold flDL
    rw [flDL_ints ns]
    rfl
theorem inV_ints (i : Int) : ∀ ns : List Int, inV (.int i) (ns.map V.int) = decide (i ∈ ns)
  | [] => rfl
  | n :: ns => by
    show (eqV (.int n) (.int i) || inV (.int i) (ns.map V.int)) = _
    rw [inV_ints i ns]
    show (n == i || decide (i ∈ ns)) = _
    rw [Bool.eq_iff_iff, Bool.or_eq_true, decide_eq_true_eq, decide_eq_true_eq, beq_iff_eq, List.mem_cons]
    exact or_congr ⟨fun h => h.symm, fun h => h.symm⟩ Iff.rfl
theorem in_ints {S : Sto} {i : Int} {ns : List Int} (neg : Bool) : oIn neg S (.int i) (.tup (ns.map D.int)) = some (.bl (neg ^^ decide (i ∈ ns))) := by
  refine orO_some ?_
  show (flDL (ns.map D.int)).map _ = _
  rw [flDL_ints, Option.map_some, inV_ints]
  cases neg <;> simp
theorem plL_ints (n : Nat) (ns : List Int) : plL n (ns.map D.int) = true := plL_mem fun d hd => by
  obtain ⟨i, _, e⟩ := List.mem_map.mp hd
  subst e
  cases n <;> rfl
theorem plD_tupI (n : Nat) (ns : List Int) : plD (n + 1) (tupI ns) = true := plL_ints n ns
theorem plL_tupI (n : Nat) (nss : List (List Int)) : plL (n + 1) (nss.map tupI) = true := plL_mem fun d hd => by
  obtain ⟨i, _, e⟩ := List.mem_map.mp hd
  subst e
  exact plD_tupI n i
theorem tupI_inj {a b : List Int} (h : tupI a = tupI b) : a = b := by
  have := D.tup.inj h
  exact (List.map_inj_right (f := D.int) (fun _ _ h => D.int.inj h)).mp this
theorem tupI_mem {a : List Int} {nss : List (List Int)} : tupI a ∈ nss.map tupI ↔ a ∈ nss := by
  rw [List.mem_map]
  exact ⟨fun ⟨b, h, e⟩ => by rw [← tupI_inj e]; exact h, fun h => ⟨a, h, rfl⟩⟩
/-- lists of truths -/
theorem toPyL_bls : ∀ bs : List Bool, toPyL (bs.map D.bl) = some (bs.map PyData.bool)
  | [] => rfl
  | b :: bs => by
    rw [List.map_cons]
    unfold toPyL
    rw [toPyL_bls bs]
    rfl
theorem lay_bls : ∀ bs : List Bool, PyData.canLayAll0 (bs.map PyData.bool) = true ∧ PyData.depthAll (bs.map PyData.bool) = 0
  | [] => ⟨rfl, rfl⟩
  | b :: bs => ⟨by show (true && _) = true; rw [(lay_bls bs).1]; rfl, by show max 0 _ = 0; rw [(lay_bls bs).2]; rfl⟩
theorem eqv_bls : ∀ bs cs : List Bool, PyData.eqvAll (bs.map PyData.bool) (cs.map PyData.bool) = decide (bs = cs)
  | [], [] => rfl
  | [], _ :: _ => rfl
  | _ :: _, [] => rfl
  | b :: bs, c :: cs => by
    show ((b == c) && PyData.eqvAll (bs.map PyData.bool) (cs.map PyData.bool)) = _
    rw [eqv_bls bs cs, Bool.eq_iff_iff, Bool.and_eq_true, beq_iff_eq, decide_eq_true_eq, decide_eq_true_eq, List.cons.injEq]
theorem ne_bls (S : Sto) (bs cs : List Bool) : oNe S (.lst (bs.map D.bl)) (.lst (cs.map D.bl)) = some (.bl (!decide (bs = cs))) := by
  refine (orO_none rfl).trans ?_
  have sh : ∀ xs : List Bool, SeqAt.shaped (.list (xs.map PyData.bool)) = true := fun xs => by
    show (PyData.canLayAll0 _ && decide (PyData.depthAll _ + 1 ≤ 64)) = true
    rw [(lay_bls xs).1, (lay_bls xs).2]
    rfl
  have tp : ∀ xs : List Bool, toPy (topD S (.lst (xs.map D.bl))) = some (.list (xs.map PyData.bool)) := fun xs => by
    show toPy (.lst _) = _
    unfold toPy
    rw [toPyL_bls]
  unfold oEqD
  rw [tp, tp]
  dsimp only
  rw [sh, sh, Bool.and_self, if_pos rfl]
  show some (D.bl (true ^^ PyData.eqvAll _ _)) = _
  rw [eqv_bls, Bool.true_xor]
theorem ne_bls2 (S : Sto) (a b c d : Bool) : oNe S (.lst [.bl a, .bl b]) (.lst [.bl c, .bl d]) = some (.bl (!decide ([a, b] = [c, d]))) := ne_bls S [a, b] [c, d]
end DL
end L2

set_option Elab.async false
set_option linter.all false
set_option maxRecDepth 100000
namespace L2
namespace DL
open PySem PySem.Spec PyProof.Rows

/-! ### tuple(range(n)), list(range(n)) -/
def rgD (d : D) : Option (List D) := match d with
  | .int j => if -1000 ≤ j ∧ j ≤ 100000 then some (rngL 0 j.toNat) else none
  | _ => none
def dTupRg (fa : DE) : DE := fun env S => (fa env S).bind fun d S1 => lift ((rgD d).map .tup) S1
def dLstRg (fa : DE) : DE := fun env S => (fa env S).bind fun d S1 => lift ((rgD d).map .lst) S1
section
variable {X : Cx} {W : WX} {a : Expr} {fa : DE} {p p2 pos pos2 : Pos}
theorem rgV_den {K : PySem.W.Frag} {H : Hp} {r t : List Addr} (j : Int) : DenL K H r t (rgV 0 j) (rngL 0 j.toNat) := by
  unfold rgV rngL
  rw [Int.sub_zero]
  generalize List.range j.toNat = l
  induction l with
  | nil => exact .nil
  | cons x l ih => exact .cons (.int _) ih
theorem rgD_ok {d : D} {ds : List D} (h : rgD d = some ds) : ∃ j, d = .int j ∧ RgOk 0 j ∧ ds = rngL 0 j.toNat := by
  unfold rgD at h
  split at h
  · rename_i j
    split at h
    · rename_i hj
      cases h
      exact ⟨j, rfl, ⟨by omega, by omega, by omega, by omega, by omega⟩, rfl⟩
    · cases h
  · cases h
theorem de_tupRg (hg : Gl X "tuple") (hm : X.mg "tuple" = none) (hg2 : Gl X "range") (hm2 : X.mg "range" = none) (hc : X.calm = true) (ha : PE X a (tE X W fa)) (na : starEach [a] X.env = (false, eval a X.env) :: starEach [] X.env := by rfl)
    (na2 : starEach [(Expr.Call (.Name "range" p2) [a] [] pos2)] X.env = (false, eval (Expr.Call (.Name "range" p2) [a] [] pos2) X.env) :: starEach [] X.env := by rfl) : PE X (.Call (.Name "tuple" p) [.Call (.Name "range" p2) [a] [] pos2] [] pos) (tE X W (dTupRg fa)) := by
  refine PE.imp (pe_tupRg hc hg hm (prg_1 hg2 hm2 ha na) na2) fun σ H Q q => ?_
  obtain ⟨r, t, S, env, rel, g⟩ := q
  refine ⟨r, t, S, env, rel, g.bind.mono fun d S1 r1 H1 ex so g1 v dv => ?_⟩
  obtain ⟨e, e1, g2⟩ := g1.lift
  obtain ⟨ds, e2, e3⟩ := Option.map_eq_some_iff.mp e1
  subst e3
  obtain ⟨j, ed, ok, eds⟩ := rgD_ok e2
  subst ed eds
  cases dv
  refine ⟨j, rfl, ok, fun q hq => ?_⟩
  exact g2 _ r1 (Ext.new hq) (so.new hq) _ (.tup upd_same (DenL.ext (Ext.new (r := r1) hq) _ _ (rgV_den j)))
theorem de_lstRg (hg : Gl X "list") (hm : X.mg "list" = none) (hg2 : Gl X "range") (hm2 : X.mg "range" = none) (hc : X.calm = true) (ha : PE X a (tE X W fa)) (na : starEach [a] X.env = (false, eval a X.env) :: starEach [] X.env := by rfl)
    (na2 : starEach [(Expr.Call (.Name "range" p2) [a] [] pos2)] X.env = (false, eval (Expr.Call (.Name "range" p2) [a] [] pos2) X.env) :: starEach [] X.env := by rfl) : PE X (.Call (.Name "list" p) [.Call (.Name "range" p2) [a] [] pos2] [] pos) (tE X W (dLstRg fa)) := by
  refine PE.imp (pe_listRg hc hg hm (prg_1 hg2 hm2 ha na) na2) fun σ H Q q => ?_
  obtain ⟨r, t, S, env, rel, g⟩ := q
  refine ⟨r, t, S, env, rel, g.bind.mono fun d S1 r1 H1 ex so g1 v dv => ?_⟩
  obtain ⟨e, e1, g2⟩ := g1.lift
  obtain ⟨ds, e2, e3⟩ := Option.map_eq_some_iff.mp e1
  subst e3
  obtain ⟨j, ed, ok, eds⟩ := rgD_ok e2
  subst ed eds
  cases dv
  refine ⟨j, rfl, ok, fun q hq => ?_⟩
  have nn := notinNew so hq
  exact g2 _ r1 (Ext.new hq) (so.new hq) _ (.lst upd_same nn.1 nn.2 (DenL.ext (Ext.new (r := r1) hq) _ _ (rgV_den j)))
end
section
variable {env : Ev} {S : Sto} {P : D → Sto → Prop} {fa : DE} {x : D}
def kTupRg (P : D → Sto → Prop) (d : D) (S : Sto) : Prop := Wp (lift ((rgD d).map .tup) S) P
def kLstRg (P : D → Sto → Prop) (d : D) (S : Sto) : Prop := Wp (lift ((rgD d).map .lst) S) P
theorem w_TupRg : Wp (dTupRg fa env S) P = Wp (fa env S) (kTupRg P) := by unfold dTupRg; simp only [wp_bind]; rfl
theorem w_LstRg : Wp (dLstRg fa env S) P = Wp (fa env S) (kLstRg P) := by unfold dLstRg; simp only [wp_bind]; rfl
theorem k_TupRg : kTupRg P x S = Wp (lift ((rgD x).map .tup) S) P := rfl
theorem k_LstRg : kLstRg P x S = Wp (lift ((rgD x).map .lst) S) P := rfl
theorem rgD_int {j : Int} (h0 : -1000 ≤ j) (h : j ≤ 100000) : rgD (.int j) = some (rngL 0 j.toNat) := if_pos ⟨h0, h⟩
def kRev (P : D → Sto → Prop) (x : D) (S : Sto) : Prop := Wp (lift (oRev S x) S) P
theorem w_Rev : Wp (dRev fa env S) P = Wp (fa env S) (kRev P) := by unfold dRev; simp only [wp_bind]; rfl
theorem k_Rev : kRev P x S = Wp (lift (oRev S x) S) P := rfl
theorem rev_tup (S : Sto) (ds : List D) : oRev S (.tup ds) = some (.tup ds.reverse) := rfl
theorem rev_lst (S : Sto) (ds : List D) : oRev S (.lst ds) = some (.lst ds.reverse) := rfl
end
end DL
end L2

set_option Elab.async false
set_option linter.all false
set_option maxRecDepth 100000
namespace L2
namespace DL
open PySem PySem.Spec PyProof.Rows

/-! ### tables -/
section
variable {κ : Type} [DecidableEq κ]
def valD (kvs : List (κ × D)) (k : κ) : Option D := (kvs.find? fun kv => decide (kv.1 = k)).map (·.2)
def putD (kvs : List (κ × D)) (k : κ) (v : D) : List (κ × D) := if (kvs.any fun kv => decide (kv.1 = k)) = true then kvs.map (fun kv => if kv.1 = k then (kv.1, v) else kv) else kvs ++ [(k, v)]
variable {K : PySem.W.Frag} {H : Hp} {r t : List Addr}
theorem DenP.split {p : κ × V} {ps : List (κ × V)} {ds : List (κ × D)} (h : DenP K H r t (p :: ps) ds) : ∃ d es, ds = (p.1, d) :: es ∧ Den K H r t p.2 d ∧ DenP K H r t ps es := by
  obtain ⟨h1, h2⟩ := h
  cases ds with
  | nil => cases h1
  | cons e es =>
    obtain ⟨k, d⟩ := e
    rw [List.map_cons, List.map_cons] at h1
    obtain ⟨e1, e2⟩ := List.cons.inj h1
    cases e1
    rw [List.map_cons, List.map_cons] at h2
    cases h2 with
    | cons a b => exact ⟨d, es, rfl, a, e2, b⟩
theorem DenP.nil0 : DenP K H r t ([] : List (κ × V)) [] := ⟨rfl, .nil⟩
theorem DenP.cons0 {k : κ} {v : V} {d : D} {ps : List (κ × V)} {ds : List (κ × D)} (h : Den K H r t v d) (z : DenP K H r t ps ds) : DenP K H r t ((k, v) :: ps) ((k, d) :: ds) := by
  refine ⟨?_, ?_⟩
  · rw [List.map_cons, List.map_cons, z.1]
  · rw [List.map_cons, List.map_cons]
    exact .cons h z.2
theorem DenP.nilD {ds : List (κ × D)} (h : DenP K H r t ([] : List (κ × V)) ds) : ds = [] := by
  cases ds with
  | nil => rfl
  | cons e es => exact absurd h.1 (by simp)
theorem DenP.len : ∀ {ps : List (κ × V)} {ds : List (κ × D)}, DenP K H r t ps ds → ps.length = ds.length
  | _, _, h => by
    have := congrArg List.length h.1
    rw [List.length_map, List.length_map] at this
    exact this
theorem DenP.val (k : κ) : ∀ {ps : List (κ × V)} {ds : List (κ × D)}, DenP K H r t ps ds → (∀ d, valD ds k = some d → ∃ v, valV ps k = some v ∧ Den K H r t v d) ∧ (valV ps k).isSome = (valD ds k).isSome
  | [], ds, h => by rw [h.nilD]; exact ⟨fun d e => (by cases e), rfl⟩
  | p :: ps, ds, h => by
    obtain ⟨d, es, e, hd, hp⟩ := h.split
    subst e
    obtain ⟨ih1, ih2⟩ := DenP.val k hp
    by_cases e : p.1 = k
    · have q : valD ((p.1, d) :: es) k = some d := by simp [valD, List.find?_cons, e]
      rw [valV_pos e, q]
      exact ⟨fun d' e' => by cases e'; exact ⟨_, rfl, hd⟩, rfl⟩
    · have q : valD ((p.1, d) :: es) k = valD es k := by simp [valD, List.find?_cons, e]
      rw [valV_neg e, q]
      exact ⟨ih1, ih2⟩
theorem DenP.any (k : κ) : ∀ {ps : List (κ × V)} {ds : List (κ × D)}, DenP K H r t ps ds → (ps.any fun kv => decide (kv.1 = k)) = ds.any fun kv => decide (kv.1 = k)
  | [], ds, h => by rw [h.nilD]; rfl
  | p :: ps, ds, h => by
    obtain ⟨d, es, e, hd, hp⟩ := h.split
    subst e
    rw [List.any_cons, List.any_cons, DenP.any k hp]
theorem DenP.repl (k : κ) {v : V} {d : D} (hv : Den K H r t v d) : ∀ {ps : List (κ × V)} {ds : List (κ × D)}, DenP K H r t ps ds → DenP K H r t (ps.map fun kv => if kv.1 = k then (kv.1, v) else kv) (ds.map fun kv => if kv.1 = k then (kv.1, d) else kv)
  | [], ds, h => by rw [h.nilD]; exact .nil0
  | p :: ps, ds, h => by
    obtain ⟨d', es, e, hd, hp⟩ := h.split
    subst e
    rw [List.map_cons, List.map_cons]
    by_cases e : p.1 = k
    · rw [if_pos e, if_pos (show (p.1, d').1 = k from e)]
      exact .cons0 hv (DenP.repl k hv hp)
    · rw [if_neg e, if_neg (show ¬ (p.1, d').1 = k from e)]
      exact .cons0 hd (DenP.repl k hv hp)
theorem DenP.snoc {k : κ} {v : V} {d : D} (hv : Den K H r t v d) : ∀ {ps : List (κ × V)} {ds : List (κ × D)}, DenP K H r t ps ds → DenP K H r t (ps ++ [(k, v)]) (ds ++ [(k, d)])
  | [], ds, h => by rw [h.nilD]; exact .cons0 hv .nil0
  | p :: ps, ds, h => by
    obtain ⟨d', es, e, hd, hp⟩ := h.split
    subst e
    exact .cons0 hd (DenP.snoc hv hp)
theorem DenP.put (k : κ) {v : V} {d : D} {ps : List (κ × V)} {ds : List (κ × D)} (h : DenP K H r t ps ds) (hv : Den K H r t v d) : DenP K H r t (putK ps k v) (putD ds k d) := by
  unfold putK putD
  rw [h.any k]
  by_cases q : (ds.any fun kv => decide (kv.1 = k)) = true
  · rw [if_pos q, if_pos q]; exact h.repl k hv
  · rw [if_neg q, if_neg q]; exact h.snoc hv
end
/-- a key -/
def keyD : D → Option Key
  | .int i => some (.inl i)
  | .str x => some (.inr x)
  | _ => none
def keyDL : List D → Option (List Key)
  | [] => some []
  | d :: ds => match keyD d, keyDL ds with
    | some k, some ks => some (k :: ks)
    | _, _ => none
def kD : Key → D
  | .inl i => .int i
  | .inr x => .str x
section
variable {K : PySem.W.Frag} {mg : Str → Option Value} {H : Hp} {r t : List Addr} {S : Sto}
theorem keyD_ok {d : D} {v : V} {k : Key} (dv : Den K H r t v d) (h : keyD d = some k) : v = kV k := by
  cases dv <;> first | (cases h; rfl) | cases h
theorem keyDL_ok : ∀ {ds : List D} {vs : List V} {ks : List Key}, DenL K H r t vs ds → keyDL ds = some ks → vs = ks.map kV
  | [], _, _, .nil, h => by cases h; rfl
  | d :: ds, _, _, .cons h1 h2, h => by
    unfold keyDL at h
    split at h
    · rename_i k ks e1 e2
      cases h
      rw [keyD_ok h1 e1, keyDL_ok h2 e2]
      rfl
    · cases h
theorem kD_den (k : Key) : Den K H r t (kV k) (kD k) := by
  cases k with
  | inl i => exact .int i
  | inr x => exact .str x
theorem kDL_den : ∀ ks : List Key, DenL K H r t (ks.map kV) (ks.map kD)
  | [] => .nil
  | k :: ks => .cons (kD_den k) (kDL_den ks)
/-- what the table at d holds at a key: none where d is no table or the key no key -/
def getT (S : Sto) (d y : D) : Option (Option D) := match d with
  | .ref n => match S[n]?, y with
    | some (.dT kvs), .tup ds => (keyDL ds).map fun ks => valD kvs ks
    | some (.dK kvs), y => (keyD y).map fun k => valD kvs k
    | some (.fK kvs), y => (keyD y).map fun k => valD kvs k
    | some (.fT kvs), .tup ds => (keyDL ds).map fun ks => valD kvs ks
    | _, _ => none
  | _ => none
theorem getT_ok {d y : D} {v u : V} {o : Option D} (so : SOk K mg H r t S) (dv : Den K H r t v d) (dy : Den K H r t u y) (h : getT S d y = some o) :
    ∃ a ov, v = .ref a ∧ DGet H a u ov ∧ ov.isSome = o.isSome ∧ ∀ e, o = some e → ∃ w, ov = some w ∧ Den K H r t w e := by
  unfold getT at h
  split at h
  · rename_i n
    cases dv with
    | @ref a n hn =>
      split at h
      · rename_i kvs ds hS
        obtain ⟨ks, h1, h2⟩ := Option.map_eq_some_iff.mp h
        subst h2
        obtain ⟨ps, hp, z⟩ := so.ok n a _ hn hS
        cases dy with
        | tup ht zt =>
          rw [keyDL_ok zt h1] at ht
          obtain ⟨q1, q2⟩ := z.val ks
          exact ⟨a, _, rfl, DGet.t hp ht, q2, fun e he => q1 e he⟩
      · rename_i kvs y hS
        obtain ⟨k, h1, h2⟩ := Option.map_eq_some_iff.mp h
        subst h2
        obtain ⟨ps, hp, z⟩ := so.ok n a _ hn hS
        obtain ⟨q1, q2⟩ := z.val k
        rw [keyD_ok dy h1]
        exact ⟨a, _, rfl, DGet.k hp, q2, fun e he => q1 e he⟩
      · rename_i kvs y hS
        obtain ⟨k, h1, h2⟩ := Option.map_eq_some_iff.mp h
        subst h2
        obtain ⟨o, ps, hp, z⟩ := so.ok n a _ hn hS
        obtain ⟨q1, q2⟩ := z.val k
        rw [keyD_ok dy h1]
        exact ⟨a, _, rfl, .inl ⟨ps, k, .inr ⟨o, hp⟩, rfl, rfl⟩, q2, fun e he => q1 e he⟩
      · rename_i kvs ds hS
        obtain ⟨ks, h1, h2⟩ := Option.map_eq_some_iff.mp h
        subst h2
        obtain ⟨o, ps, hp, z⟩ := so.ok n a _ hn hS
        cases dy with
        | tup ht zt =>
          rw [keyDL_ok zt h1] at ht
          obtain ⟨q1, q2⟩ := z.val ks
          exact ⟨a, _, rfl, .inr ⟨ps, ks, _, .inr ⟨o, hp⟩, rfl, ht, rfl⟩, q2, fun e he => q1 e he⟩
      · cases h
  · cases h
def oInT (neg : Bool) : Sto → D → D → Option D := fun S x y => (getT S y x).map fun o => .bl (neg ^^ o.isSome)
end
section
variable {X : Cx} {W : WX} {E : XK} {o e i k : Expr} {fo fa fi fe fk : DE} {pos pos' : Pos}
theorem or_dIn (hu : X.A.units + 1 < cLine) : OpR X (compareOp .In) (fun x y H Q => ∃ a o, y = .ref a ∧ DGet H a x o ∧ Q (.bl o.isSome) H) := by
  intro pins s σ H x y v u Q I rx ry h
  obtain ⟨a, o, ey, g, q⟩ := h
  subst ey
  cases ry
  exact d_in hu I g rx fun s3 I3 => ⟨.bl o.isSome, H, I3, rfl, q⟩
theorem or_dNotIn (hu : X.A.units + 1 < cLine) : OpR X (compareOp .NotIn) (fun x y H Q => ∃ a o, y = .ref a ∧ DGet H a x o ∧ Q (.bl (!o.isSome)) H) := by
  intro pins s σ H x y v u Q I rx ry h
  obtain ⟨a, o, ey, g, q⟩ := h
  subst ey
  cases ry
  exact d_notIn hu I g rx fun s3 I3 => ⟨.bl (!o.isSome), H, I3, rfl, q⟩
theorem od_inT (hu : X.A.units + 1 < cLine) : OpD X (compareOp .In) (oInT false) := by
  refine ⟨_, or_dIn hu, fun r t S H x y v u d Q so dx dy e q => ?_⟩
  obtain ⟨o, e1, e2⟩ := Option.map_eq_some_iff.mp e
  subst e2
  obtain ⟨a, ov, ev, g, h1, _⟩ := getT_ok so dy dx e1
  refine ⟨a, ov, ev, g, q _ _ (Ext.refl _ _) so ?_⟩
  rw [h1, Bool.false_xor]
  exact .bl _
theorem od_notInT (hu : X.A.units + 1 < cLine) : OpD X (compareOp .NotIn) (oInT true) := by
  refine ⟨_, or_dNotIn hu, fun r t S H x y v u d Q so dx dy e q => ?_⟩
  obtain ⟨o, e1, e2⟩ := Option.map_eq_some_iff.mp e
  subst e2
  obtain ⟨a, ov, ev, g, h1, _⟩ := getT_ok so dy dx e1
  refine ⟨a, ov, ev, g, q _ _ (Ext.refl _ _) so ?_⟩
  rw [h1, Bool.true_xor]
  exact .bl _
/-- d[y] -/
def oGetT : Sto → D → D → Option D := fun S x y => (getT S x y).bind id
theorem de_getT (hu : X.A.units + 1 < cLine) (ho : PE X o (tE X W fo)) (hi : PE X i (tE X W fi)) (hs : NoSl i) : PE X (.Subscript o i pos) (tE X W (dBin oGetT fo fi)) := by
  refine PE.imp (pe_dget hu ho hi hs) fun σ H Q q => tE_two q fun r t S env x y v u H' rel dx dy g => ?_
  obtain ⟨d, e, g⟩ := g.lift
  obtain ⟨od, e1, e2⟩ := Option.bind_eq_some_iff.mp e
  obtain ⟨a, ov, ev, gg, _, h2⟩ := getT_ok rel.so dx dy e1
  obtain ⟨w, e3, dw⟩ := h2 d e2
  rw [e3] at gg
  exact ⟨a, w, ev, gg, g.here rel.so w dw⟩
/-- d[y] = v -/
def putT (S : Sto) (x y v : D) : Option Sto := match x with
  | .ref n => match S[n]?, y with
    | some (.dT kvs), .tup ds => if kvs.length < sizeLine then (keyDL ds).map fun ks => S.set n (.dT (putD kvs ks v)) else none
    | some (.dK kvs), y => if kvs.length < sizeLine then (keyD y).map fun k => S.set n (.dK (putD kvs k v)) else none
    | _, _ => none
  | _ => none
theorem putT_ok {K : PySem.W.Frag} {mg : Str → Option Value} {H : Hp} {r t : List Addr} {S S' : Sto} {x y d : D} {v u w : V} (so : SOk K mg H r t S) (dx : Den K H r t v x) (dy : Den K H r t u y) (dd : Den K H r t w d) (h : putT S x y d = some S') :
    ∃ a H', v = .ref a ∧ DPut H a u w H' ∧ Ext r H r H' ∧ SOk K mg H' r t S' := by
  unfold putT at h
  split at h
  · rename_i n
    cases dx with
    | @ref a n hn =>
      split at h
      · rename_i kvs ds hS
        split at h
        · rename_i hl
          obtain ⟨ks, h1, h2⟩ := Option.map_eq_some_iff.mp h
          subst h2
          obtain ⟨ps, hp, z⟩ := so.ok n a _ hn hS
          cases dy with
          | tup ht zt =>
            rw [keyDL_ok zt h1] at ht
            have ex : Ext r H r (upd H a (.dT (putK ps ks w))) := Ext.write hp trivial (List.mem_of_getElem? hn)
            exact ⟨a, _, rfl, DPut.t hp ht (by rw [z.len]; exact hl), ex, so.write hn hp trivial ⟨_, upd_same, DenP.ext ex (z.put ks dd)⟩⟩
        · cases h
      · rename_i kvs y hS
        split at h
        · rename_i hl
          obtain ⟨k, h1, h2⟩ := Option.map_eq_some_iff.mp h
          subst h2
          obtain ⟨ps, hp, z⟩ := so.ok n a _ hn hS
          rw [keyD_ok dy h1]
          have ex : Ext r H r (upd H a (.dK (putK ps k w))) := Ext.write hp trivial (List.mem_of_getElem? hn)
          exact ⟨a, _, rfl, DPut.k hp (by rw [z.len]; exact hl), ex, so.write hn hp trivial ⟨_, upd_same, DenP.ext ex (z.put k dd)⟩⟩
        · cases h
      · cases h
  · cases h
def sPutT (fo fi fe : DE) : DS := fun env S => (fe env S).bind fun y S1 => (fo env S1).bind fun x S2 => (fi env S2).bind fun i S3 => match putT S3 x i y with
  | some S4 => .ok (.nx, env) S4
  | none => .bad
theorem ds_putT (hu : X.A.units + 1 < cLine) (ho : PE X o (tE X (WC E) fo)) (hi : PE X i (tE X (WC E) fi)) (hv : PE X e (tE X (WC E) fe)) (hs : swapsWith e (some (.Subscript o i pos')) pos.line X.env = pure false := by rfl) : PS X (.Assign [.Subscript o i pos'] e pos) (tS X E (sPutT fo fi fe)) := by
  refine PS.imp (ps_dput hu ho hi hv hs) fun D σ H q => ?_
  obtain ⟨r, t, S, env, rel, g⟩ := q
  refine ⟨r, t, S, env, rel, g.bind.mono fun y S1 r1 H1 ex so g1 yv dy => ?_⟩
  have rel1 := rel.ext ex so
  refine ⟨r1, t, S1, env, rel1, g1.bind.mono fun x S2 r2 H2 ex2 so2 g2 xv dx => ?_⟩
  have rel2 := rel1.ext ex2 so2
  refine ⟨r2, t, S2, env, rel2, g2.bind.mono fun id S3 r3 H3 ex3 so3 g3 iv div => ?_⟩
  split at g3
  · rename_i S4 hp
    obtain ⟨a, H4, ev, gp, ex4, so4⟩ := putT_ok so3 (Den.ext ex3 _ _ dx) div (Den.ext (ex2.trans ex3) _ _ dy) hp
    exact ⟨a, H4, ev, gp, g3 _ r3 ex4 so4 σ ((rel2.ext ex3 so3).ext ex4 so4)⟩
  · exact (show False from g3).elim
/-- len(d), list(d) -/
def oLenT : Sto → List D → Option D := fun S ds => match ds with
  | [.ref n] => match S[n]? with
    | some (.dT kvs) => some (.int kvs.length)
    | some (.dK kvs) => some (.int kvs.length)
    | _ => none
  | _ => none
theorem cd_lenT : CallD X (.builtin "len") oLenT := by
  refine ⟨_, CallR.or call_len_dT call_lenD, fun r t S H ds vs d Q so dv e q => ?_⟩
  unfold oLenT at e
  split at e
  · cases dv with
    | cons d1 d2 =>
      cases d2
      cases d1 with
      | @ref a n hn =>
        split at e
        · rename_i kvs hS
          cases e
          obtain ⟨ps, hp, z⟩ := so.ok _ a _ hn hS
          refine .inl ⟨a, ps, rfl, hp, ?_⟩
          rw [z.len]
          exact q _ _ (Ext.refl _ _) so (.int _)
        · rename_i kvs hS
          cases e
          obtain ⟨ps, hp, z⟩ := so.ok _ a _ hn hS
          refine .inr ⟨a, ps, rfl, hp, ?_⟩
          rw [z.len]
          exact q _ _ (Ext.refl _ _) so (.int _)
        · cases e
  · cases e
def oLenA : Sto → List D → Option D := orC oLen oLenT
theorem cd_lenA : CallD X (.builtin "len") oLenA := cd_len.or cd_lenT
def oListT : Sto → List D → Option D := fun S ds => match ds with
  | [.ref n] => match S[n]? with
    | some (.dT kvs) => some (.lst (kvs.map fun kv => .tup (kv.1.map kD)))
    | _ => none
  | _ => none
theorem keys_den {K : PySem.W.Frag} {H : Hp} {r t : List Addr} {ps : List (List Key × V)} {bs : List Addr} (h : IsKeys H ps bs) : ∀ {ds : List (List Key × D)}, ps.map (·.1) = ds.map (·.1) → DenL K H r t (bs.map V.ref) (ds.map fun kv => D.tup (kv.1.map kD)) := by
  unfold IsKeys at h
  induction h with
  | nil =>
    intro ds e
    cases ds with
    | nil => exact .nil
    | cons d ds => cases e
  | cons h1 h2 ih =>
    intro ds e
    cases ds with
    | nil => cases e
    | cons d ds =>
      rw [List.map_cons, List.map_cons] at e
      obtain ⟨e1, e2⟩ := List.cons.inj e
      refine .cons (.tup (by rw [← e1]; exact h1) (kDL_den _)) (ih e2)
theorem cd_listT (hc : X.calm = true) : CallD X (.type "list") oListT := by
  refine ⟨_, call_list_dT hc, fun r t S H ds vs d Q so dv e q => ?_⟩
  unfold oListT at e
  split at e
  · cases dv with
    | cons d1 d2 =>
      cases d2
      cases d1 with
      | @ref a n hn =>
        split at e
        · rename_i kvs hS
          cases e
          obtain ⟨ps, hp, z⟩ := so.ok _ a _ hn hS
          exact ⟨a, ps, rfl, .inl hp, fun p bs hn0 hk => newL so hn0 (keys_den hk z.1) q⟩
        · cases e
  · cases e
def oListA : Sto → List D → Option D := orC oListC oListT
theorem cd_listA (hc : X.calm = true) : CallD X (.type "list") oListA := cd_list.or (cd_listT hc)
end
end DL
end L2

set_option Elab.async false
set_option linter.all false
set_option maxRecDepth 100000
namespace L2
open PySem PySem.Spec PyProof.Rows
section
variable {X : Cx}
/-- {k: v}, k a tuple; the new dict stands empty while the pair is made -/
def tDisp1T (tk tv : TE) : TE := fun σ H Q => ∀ p, H p = none → tk σ (upd H p (.dT [])) fun x H1 => tv σ H1 fun y H2 => H2 p = some (.dT []) ∧ ∃ (b : Addr) (ks : List Key), x = .ref b ∧ H2 b = some (.tup (ks.map kV)) ∧ Q (.ref p) (upd H2 p (.dT [(ks, y)]))
theorem pe_disp1T {k v : Expr} {tk tv : TE} {pos : Pos} (hu : X.A.units + 1 < cLine) (hk : PE X k tk) (hv : PE X v tv) : PE X (.Dict [some k] [v] pos) (tDisp1T tk tv) := by
  refine ⟨fun pins s σ H Q I q => ?_⟩
  have hn := I.hok.fresh (Nat.le_refl s.heap.objs.size)
  have I1 := I.laid (a := s.heap.objs.size) (o := .dT []) (h' := s.heap.push { cls := .type "dict", data := .dict #[] }) (t' := s.toks) (fun _ _ q => Heap.get?_push_of_some _ q) (Nat.le_refl _) (dt_empty s.heap I.big)
  rw [arm_eval_Dict, zip_pairTrees [some k] [v] X.env pos rfl rfl, dictDisplay_pairs (pairTrees [some k] [v] X.env pos) (by unfold pairTrees; exact fun z => by cases z) (by show 1 < 17; decide)]
  refine wpAny_bind (wpAny_standAt (wpAny_bind ?_))
  refine wpAny_subDictH (knd := tupleKind (mixKind X.prog X.w)) (Q := fun d s' => wpAny (model X.prog X.w) X.A (pure (Value.ref d)) (EP X pins σ Q) X.xe s') (show X.A.units < cLine by omega) (by show 1 ≤ 15; decide) ?_
  have pps : PPs X pos [some k] [v] [(tk, tv)] := pps_cons hk hv pps_nil
  refine thn (pps.run pins _ σ _ (fun ps H2 => match ps with
    | [(x, y)] => H2 s.heap.objs.size = some (.dT []) ∧ ∃ (b : Addr) (ks : List Key), x = .ref b ∧ H2 b = some (.tup (ks.map kV)) ∧ Q (.ref s.heap.objs.size) (upd H2 s.heap.objs.size (.dT [(ks, y)]))
    | _ => False) I1 (q _ hn)) fun ws s2 ⟨ps, H2, I2, rel, qq⟩ => ?_
  match ps, rel, qq with
  | [(x, y)], rel, qq =>
    obtain ⟨e, b, ks, ex, hb, q2⟩ := qq
    subst ex
    cases rel with
    | @cons _ w2 _ ws2 hw t =>
      cases t
      obtain ⟨u1, u2⟩ := w2
      obtain ⟨r1, r2⟩ := hw
      obtain rfl : u1 = Value.ref b := r1
      obtain ⟨z, hd, xs, rel0, dd⟩ := dt_of I2.hok e
      cases rel0
      refine ⟨[(ks, b, u2)], ⟨rfl, rfl, key_of I2.hok hb, trivial⟩, dd, fun h' tk' dd' hs => wpAny_pure ?_⟩
      obtain ⟨o, es, ep, hq, h2, h3, h4, _, h5⟩ := dd'
      refine ⟨.ref s.heap.objs.size, _, ?_, rfl, q2⟩
      refine d_write I2 (by rw [e]; exact True.intro) hs ⟨o, hq⟩ ⟨by rw [sizeLine_eq]; show 1 ≤ _; omega, hd, _, (Paired.cons ⟨rfl, ?_, r2⟩ Paired.nil : KT _ [(ks, y)] [(ks, b, u2)]), o, es, ep, hq, h2, h3, h4, h5⟩
      show upd H2 s.heap.objs.size _ b = _
      rw [upd_ne (ne_of hb e (fun z => nomatch z))]
      exact hb
end
end L2
namespace L2
namespace DL
open PySem PySem.Spec PyProof.Rows
theorem hu1 {A : Around} {k : Nat} (hr : Room k A) : A.units + 1 < cLine := by have := hr.un; omega
def dDisp1T (fk fv : DE) : DE := fun env S => (fk env (S ++ [.dT []])).bind fun x S1 => (fv env S1).bind fun y S2 => match x, S2[S.length]? with
  | .tup ds, some (.dT []) => match keyDL ds with
    | some ks => .ok (.ref S.length) (S2.set S.length (.dT [(ks, y)]))
    | none => .bad
  | _, _ => .bad
section
variable {X : Cx} {W : WX} {k v : Expr} {fk fv : DE} {pos : Pos}
theorem de_disp1T (hu : X.A.units + 1 < cLine) (hk : PE X k (tE X W fk)) (hv : PE X v (tE X W fv)) : PE X (.Dict [some k] [v] pos) (tE X W (dDisp1T fk fv)) := by
  refine PE.imp (pe_disp1T hu hk hv) fun σ H Q q p hp => ?_
  obtain ⟨r, t, S, env, rel, g⟩ := q
  have ex0 : Ext r H (r ++ [p]) (upd H p (.dT [])) := Ext.grow hp
  obtain ⟨so0, d0⟩ := growC (o := .dT []) (c := .dT []) rel.so hp ⟨[], upd_same, rfl, .nil⟩
  have hlen : (r ++ [p])[S.length]? = some p := by rw [← rel.so.len, List.getElem?_append_right (Nat.le_refl _), Nat.sub_self]; rfl
  refine ⟨r ++ [p], t, S ++ [.dT []], env, rel.ext ex0 so0, (g.ext ex0).bind.mono fun x S1 r1 H1 ex so g1 xv dx => ?_⟩
  have rel1 := (rel.ext ex0 so0).ext ex so
  refine ⟨r1, t, S1, env, rel1, g1.bind.mono fun y S2 r2 H2 ex2 so2 g2 yv dy => ?_⟩
  split at g2
  · rename_i ds hS2
    split at g2
    · rename_i ks hks
      have hn2 : r2[S.length]? = some p := ex2.get (ex.get hlen)
      obtain ⟨ps, hp2, z⟩ := so2.ok _ p _ hn2 hS2
      have eps : ps = [] := by
        have := z.len
        exact List.length_eq_zero_iff.mp this
      subst eps
      have dx2 := Den.ext ex2 _ _ dx
      cases dx2 with
      | @tup a xs ds ht zt =>
        rw [keyDL_ok zt hks] at ht
        have ex3 : Ext r2 H2 r2 (upd H2 p (.dT [(ks, yv)])) := Ext.write hp2 trivial (List.mem_of_getElem? hn2)
        have so3 := so2.write (o := .dT [(ks, yv)]) hn2 hp2 trivial (c := .dT [(ks, y)]) ⟨[(ks, yv)], upd_same, DenP.ext ex3 (DenP.cons0 dy DenP.nil0)⟩
        exact ⟨hp2, a, ks, rfl, ht, g2 _ r2 ex3 so3 _ (.ref hn2)⟩
    · exact (show False from g2).elim
  · exact (show False from g2).elim
end
section
variable {env : Ev} {S : Sto} {P : D → Sto → Prop} {PF : Fl × Ev → Sto → Prop} {fk fv fo fi fe : DE} {x y o : D} {n : Nat}
def kDi1 (fv : DE) (n : Nat) (env : Ev) (P : D → Sto → Prop) (x : D) (S : Sto) : Prop := Wp (fv env S) fun y S2 => ∃ ks, (∃ ds, x = .tup ds ∧ keyDL ds = some ks) ∧ S2[n]? = some (.dT []) ∧ P (.ref n) (S2.set n (.dT [(ks, y)]))
def kDi2 (n : Nat) (P : D → Sto → Prop) (x y : D) (S : Sto) : Prop := ∃ ks, (∃ ds, x = .tup ds ∧ keyDL ds = some ks) ∧ S[n]? = some (.dT []) ∧ P (.ref n) (S.set n (.dT [(ks, y)]))
theorem w_Disp1T (h : Wp (fk env (S ++ [.dT []])) (kDi1 fv S.length env P)) : Wp (dDisp1T fk fv env S) P := by
  obtain ⟨x, S1, e1, h1⟩ := h.get
  obtain ⟨y, S2, e2, ks, ⟨ds, ex, hk⟩, hS, p⟩ := Wp.get h1
  subst ex
  unfold dDisp1T
  rw [e1, Out.bind_ok, e2, Out.bind_ok, hS]
  dsimp only
  rw [hk]
  exact Wp.of rfl p
theorem k_Di1 : kDi1 fv n env P x S = Wp (fv env S) (kDi2 n P x) := rfl
def kPT1 (fo fi : DE) (env : Ev) (P : Fl × Ev → Sto → Prop) (y : D) (S : Sto) : Prop := Wp (fo env S) fun o S2 => Wp (fi env S2) fun i S3 => ∃ S4, putT S3 o i y = some S4 ∧ P (.nx, env) S4
def kPT2 (fi : DE) (env : Ev) (P : Fl × Ev → Sto → Prop) (y o : D) (S : Sto) : Prop := Wp (fi env S) fun i S3 => ∃ S4, putT S3 o i y = some S4 ∧ P (.nx, env) S4
def kPT3 (env : Ev) (P : Fl × Ev → Sto → Prop) (y o i : D) (S : Sto) : Prop := ∃ S4, putT S o i y = some S4 ∧ P (.nx, env) S4
theorem w_PutT (h : Wp (fe env S) (kPT1 fo fi env PF)) : Wp (sPutT fo fi fe env S) PF := by
  obtain ⟨y, S1, e1, h1⟩ := h.get
  obtain ⟨o, S2, e2, h2⟩ := Wp.get h1
  obtain ⟨i, S3, e3, S4, e4, hp⟩ := Wp.get h2
  unfold sPutT
  rw [e1, Out.bind_ok, e2, Out.bind_ok, e3, Out.bind_ok, e4]
  exact Wp.of rfl hp
theorem k_PT1 : kPT1 fo fi env PF y S = Wp (fo env S) (kPT2 fi env PF y) := rfl
theorem k_PT2 : kPT2 fi env PF y o S = Wp (fi env S) (kPT3 env PF y o) := rfl
end
/-- keys of numbers -/
def kI (ns : List Int) : List Key := ns.map Sum.inl
theorem keyDL_ints : ∀ ns : List Int, keyDL (ns.map D.int) = some (kI ns)
  | [] => rfl
  | n :: ns => by
    rw [List.map_cons]
    unfold keyDL
    rw [keyDL_ints ns]
    rfl
theorem kI_inj {a b : List Int} (h : kI a = kI b) : a = b := (List.map_inj_right (f := (Sum.inl : Int → Key)) (fun _ _ h => Sum.inl.inj h)).mp h
/-- a table whose keys are tuples of numbers -/
def tabI (kvs : List (List Int × D)) : List (List Key × D) := kvs.map fun kv => (kI kv.1, kv.2)
theorem tabI_val (k : List Int) : ∀ kvs : List (List Int × D), valD (tabI kvs) (kI k) = valD kvs k
  | [] => rfl
  | p :: kvs => by
    have ih := tabI_val k kvs
    unfold valD tabI at ih ⊢
    rw [List.map_cons, List.find?_cons, List.find?_cons]
    have : decide (kI p.1 = kI k) = decide (p.1 = k) := decide_eq_decide.mpr ⟨kI_inj, fun h => by rw [h]⟩
    dsimp only
    rw [this]
    cases decide (p.1 = k) with
    | true => rfl
    | false => exact ih
theorem tabI_put (k : List Int) (d : D) (kvs : List (List Int × D)) : putD (tabI kvs) (kI k) d = tabI (putD kvs k d) := by
  have ha : ((tabI kvs).any fun kv => decide (kv.1 = kI k)) = kvs.any fun kv => decide (kv.1 = k) := by
    unfold tabI
    rw [List.any_map]
    refine congrArg (fun f => kvs.any f) (funext fun p => ?_)
    exact decide_eq_decide.mpr ⟨kI_inj, fun h => by show kI p.1 = kI k; rw [h]⟩
  unfold putD
  rw [ha]
  by_cases q : (kvs.any fun kv => decide (kv.1 = k)) = true
  · rw [if_pos q, if_pos q]
    unfold tabI
    rw [List.map_map, List.map_map]
    refine List.map_congr_left fun p _ => ?_
    show (if kI p.1 = kI k then (kI p.1, d) else (kI p.1, p.2)) = _
    by_cases e : p.1 = k
    · rw [if_pos (by rw [e])]
      show _ = (kI (if p.1 = k then (p.1, d) else p).1, (if p.1 = k then (p.1, d) else p).2)
      rw [if_pos e]
    · rw [if_neg (fun z => e (kI_inj z))]
      show _ = (kI (if p.1 = k then (p.1, d) else p).1, (if p.1 = k then (p.1, d) else p).2)
      rw [if_neg e]
  · rw [if_neg q, if_neg q]
    unfold tabI
    rw [List.map_append]
    rfl
theorem getT_I {S : Sto} {n : Nat} {kvs : List (List Int × D)} (h : S[n]? = some (.dT (tabI kvs))) (k : List Int) : getT S (.ref n) (tupI k) = some (valD kvs k) := by
  unfold getT tupI
  dsimp only
  rw [h]
  dsimp only
  rw [keyDL_ints, Option.map_some, tabI_val]
theorem inT_I {S : Sto} {n : Nat} {kvs : List (List Int × D)} (h : S[n]? = some (.dT (tabI kvs))) (neg : Bool) (k : List Int) : oInT neg S (tupI k) (.ref n) = some (.bl (neg ^^ (valD kvs k).isSome)) := by
  unfold oInT
  rw [getT_I h]
  rfl
theorem putT_I {S : Sto} {n : Nat} {kvs : List (List Int × D)} (h : S[n]? = some (.dT (tabI kvs))) (k : List Int) (d : D) (hl : kvs.length < sizeLine) : putT S (.ref n) (tupI k) d = some (S.set n (.dT (tabI (putD kvs k d)))) := by
  unfold putT tupI
  dsimp only
  rw [h]
  dsimp only
  rw [if_pos (by unfold tabI; rw [List.length_map]; exact hl), keyDL_ints, Option.map_some, tabI_put]
theorem lenT_I {S : Sto} {n : Nat} {kvs : List (List Int × D)} (h : S[n]? = some (.dT (tabI kvs))) : oLenA S [.ref n] = some (.int kvs.length) := by
  have e : oLen S [.ref n] = none := by
    show (listOf S (.ref n)).map _ = none
    show (lstOf S (.ref n)).map _ = none
    unfold lstOf
    dsimp only
    rw [h]
    rfl
  unfold oLenA orC
  rw [e]
  show (match S[n]? with | some (.dT kvs) => some (D.int kvs.length) | some (.dK kvs) => some (D.int kvs.length) | _ => none) = _
  rw [h]
  dsimp only
  unfold tabI
  rw [List.length_map]
theorem listT_I {S : Sto} {n : Nat} {kvs : List (List Int × D)} (h : S[n]? = some (.dT (tabI kvs))) : oListA S [.ref n] = some (.lst ((kvs.map (·.1)).map tupI)) := by
  have e : oListC S [.ref n] = none := by
    show (listOf S (.ref n)).map _ = none
    show (lstOf S (.ref n)).map _ = none
    unfold lstOf
    dsimp only
    rw [h]
    rfl
  unfold oListA orC
  rw [e]
  show (match S[n]? with | some (.dT kvs) => some (D.lst (kvs.map fun kv : List Key × D => D.tup (kv.1.map kD))) | _ => none) = _
  rw [h]
  dsimp only
  unfold tabI
  rw [List.map_map, List.map_map]
  refine congrArg (fun l => some (D.lst l)) (List.map_congr_left fun p _ => ?_)
  show D.tup ((kI p.1).map kD) = tupI p.1
  unfold kI tupI
  rw [List.map_map]
  rfl
/-! ### min, max of two -/
def oMin2 : Sto → List D → Option D := fun _ ds => match ds with
  | [.int i, .int j] => some (.int (if j < i then j else i))
  | _ => none
def oMax2 : Sto → List D → Option D := fun _ ds => match ds with
  | [.int i, .int j] => some (.int (if j > i then j else i))
  | _ => none
section
variable {X : Cx}
theorem cd_min2 (hc : X.calm = true) : CallD X (.builtin "min") oMin2 := by
  refine ⟨_, call_min2 hc, fun r t S H ds vs d Q so dv e q => ?_⟩
  unfold oMin2 at e
  split at e
  · cases e
    cases dv with
    | cons d1 d2 =>
      cases d2 with
      | cons d3 d4 =>
        cases d4; cases d1; cases d3
        exact ⟨_, _, rfl, q _ _ (Ext.refl _ _) so (.int _)⟩
  · cases e
theorem cd_max2 (hc : X.calm = true) : CallD X (.builtin "max") oMax2 := by
  refine ⟨_, call_max2 hc, fun r t S H ds vs d Q so dv e q => ?_⟩
  unfold oMax2 at e
  split at e
  · cases e
    cases dv with
    | cons d1 d2 =>
      cases d2 with
      | cons d3 d4 =>
        cases d4; cases d1; cases d3
        exact ⟨_, _, rfl, q _ _ (Ext.refl _ _) so (.int _)⟩
  · cases e
end
end DL
end L2

set_option Elab.async false
set_option linter.all false
set_option maxRecDepth 100000
namespace L2
namespace DL
open PySem PySem.Spec PyProof.Rows
/-- a loop over a list, whether it may be changed or not -/
noncomputable def sForA (f : DE) (g : DG) (b : DS) : DS := fun env S => (f env S).bind fun d S1 => match d, lstOf S1 d with
  | .ref n, some ds => forGoC n ds g b ds env S1
  | d, _ => match seqItems d with
    | some ds => forGo g b ds env S1
    | none => .bad
section
variable {X : Cx} {E : XK} {f : DS} {fe : DE} {pos : Pos}
theorem PS.or {e : Stmt} {u u' : TS} (h : PS X e u) (h' : PS X e u') : PS X e (fun D σ H => u D σ H ∨ u' D σ H) := ⟨fun pins s σ H D I q => q.elim (h.run pins s σ H D I) (h'.run pins s σ H D I)⟩
theorem ds_forA {tg iter : Expr} {body : List Stmt} {gg : DG} {own : List Nat} (hp : PassesOwn (model X.prog X.w) X.A X.env X.xe) (hc : X.calm = true) (he : PE X iter (tE X (WC E) fe)) (hg : PG X tg (tG X.K X.mg own gg)) (hb : PSs X body (tS X E f))
    (hs : ∀ x, foldedSetIterable iter X.env x = pure x := by intro _; rfl) : PS X (.For tg iter body [] pos) (tS X E (sForA fe gg f)) := by
  refine PS.imp (PS.or (ds_forC hp hc he hg hb hs) (ds_for hp hc (di_seq he) hg hb hs)) fun D σ H q => ?_
  obtain ⟨r, t, S, env, rel, g⟩ := q
  unfold sForA at g
  cases h : fe env S with
  | bad => rw [h] at g; exact (show False from g).elim
  | exc c S1 =>
    rw [h, Out.bind_exc] at g
    refine .inl ⟨r, t, S, env, rel, ?_⟩
    unfold sForC
    rw [h, Out.bind_exc]
    exact g
  | ok d S1 =>
    rw [h, Out.bind_ok] at g
    split at g
    · rename_i n ds hd
      refine .inl ⟨r, t, S, env, rel, ?_⟩
      unfold sForC
      rw [h, Out.bind_ok, hd]
      exact g
    · split at g
      · rename_i ds hds
        refine .inr ⟨r, t, S, env, rel, ?_⟩
        unfold sFor iSeq
        rw [h, Out.bind_ok, hds]
        exact g
      · exact (show False from g).elim
end
section
variable {f : DE} {g : DG} {b : DS} {env : Ev} {S : Sto} {P : Fl × Ev → Sto → Prop}
def kForA (g : DG) (b : DS) (env : Ev) (P : Fl × Ev → Sto → Prop) (d : D) (S : Sto) : Prop := (∃ n ds, d = .ref n ∧ S[n]? = some (.lst ds) ∧ Wp (forGoC n ds g b ds env S) P) ∨ ∃ ds, d = .lst ds ∧ Wp (forGo g b ds env S) P
theorem w_ForA (h : Wp (f env S) (kForA g b env P)) : Wp (sForA f g b env S) P := by
  unfold sForA
  rw [wp_bind]
  refine h.mono fun d S1 q => ?_
  rcases q with ⟨n, ds, e, hn, w⟩ | ⟨ds, e, w⟩
  · subst e
    rw [lst_ref hn]
    exact w
  · subst e
    exact w
/-- the same loop body, whichever list it is -/
theorem forA_wp {n : Nat} {ds0 : List D} (I : List D → Ev → Sto → Prop) {d : D} (hd : d = .lst ds0 ∨ d = .ref n) (h : I ds0 env S) (hS : d = .ref n → S[n]? = some (.lst ds0)) (hk : d = .ref n → ∀ ds env S, I ds env S → S[n]? = some (.lst ds0))
    (hs : ∀ d rest env S, I (d :: rest) env S → ∃ env1, g env d = some env1 ∧ Wp (b env1 S) fun p S' => match p.1 with | .nx => I rest p.2 S' | .ct => I rest p.2 S' | .bk => P (.nx, p.2) S' | .rt v => P (.rt v, p.2) S')
    (hf : ∀ env S, I [] env S → P (.nx, env) S) : kForA g b env P d S := by
  rcases hd with e | e
  · exact .inr ⟨ds0, e, forGo_wp I ds0 env S h hs hf⟩
  · exact .inl ⟨n, ds0, e, hS e, forGoC_all I ds0 env S h (hk e) hs hf⟩
end
end DL
end L2

set_option Elab.async false
set_option linter.all false
set_option maxRecDepth 100000
/-! min, max of a list of ints -/
namespace L2
namespace DL
open PySem PySem.Spec PyProof.Rows
def oMinL : Sto → List D → Option D := fun S ds => match ds with
  | [d] => ((listOf S d).bind intsOf).bind fun ns => ns.min?.map D.int
  | _ => none
def oMaxL : Sto → List D → Option D := fun S ds => match ds with
  | [d] => ((listOf S d).bind intsOf).bind fun ns => ns.max?.map D.int
  | _ => none
section
variable {X : Cx}
theorem cd_minL (hc : X.calm = true) : CallD X (.builtin "min") oMinL := by
  refine ⟨_, cr_min hc, fun r t S H ds vs d Q so dv e q => ?_⟩
  unfold oMinL at e
  split at e
  · obtain ⟨bs, h1, h2⟩ := Option.bind_eq_some_iff.mp e
    obtain ⟨es, h3, h4⟩ := Option.bind_eq_some_iff.mp h1
    obtain ⟨m, hm, h2⟩ := Option.map_eq_some_iff.mp h2
    subst h2
    cases dv with
    | cons d1 d2 =>
      cases d2
      obtain ⟨a, xs, rfl, h5, z⟩ := list_ok so d1 h3
      rw [ints_eq h4] at z
      rw [z.ints] at h5
      obtain ⟨hm1, hm2⟩ := List.min?_eq_some_iff.mp hm
      refine ⟨a, bs, rfl, h5, List.length_pos_of_mem hm1, fun k k1 k2 => ?_⟩
      have e : k = m := Int.le_antisymm (k2 m hm1) (hm2 k k1)
      subst e
      exact q _ _ (Ext.refl _ _) so (.int _)
  · cases e
theorem cd_maxL (hc : X.calm = true) : CallD X (.builtin "max") oMaxL := by
  refine ⟨_, cr_max hc, fun r t S H ds vs d Q so dv e q => ?_⟩
  unfold oMaxL at e
  split at e
  · obtain ⟨bs, h1, h2⟩ := Option.bind_eq_some_iff.mp e
    obtain ⟨es, h3, h4⟩ := Option.bind_eq_some_iff.mp h1
    obtain ⟨m, hm, h2⟩ := Option.map_eq_some_iff.mp h2
    subst h2
    cases dv with
    | cons d1 d2 =>
      cases d2
      obtain ⟨a, xs, rfl, h5, z⟩ := list_ok so d1 h3
      rw [ints_eq h4] at z
      rw [z.ints] at h5
      obtain ⟨hm1, hm2⟩ := List.max?_eq_some_iff.mp hm
      refine ⟨a, bs, rfl, h5, List.length_pos_of_mem hm1, fun k k1 k2 => ?_⟩
      have e : k = m := Int.le_antisymm (hm2 k k1) (k2 m hm1)
      subst e
      exact q _ _ (Ext.refl _ _) so (.int _)
  · cases e
end
/-- the least of some numbers, the greatest -/
def leastN : List Nat → Nat
  | [] => 0
  | [a] => a
  | a :: l => min a (leastN l)
def mostN : List Nat → Nat
  | [] => 0
  | a :: l => max a (mostN l)
theorem leastN_le : ∀ {l : List Nat} {a : Nat}, a ∈ l → leastN l ≤ a
  | [x], a, h => by rw [List.mem_singleton.mp h]; exact Nat.le_refl _
  | x :: y :: l, a, h => by
    show min x (leastN (y :: l)) ≤ a
    rcases List.mem_cons.mp h with z | z
    · rw [z]; exact Nat.min_le_left ..
    · exact Nat.le_trans (Nat.min_le_right ..) (leastN_le z)
theorem leastN_mem : ∀ {l : List Nat}, l ≠ [] → leastN l ∈ l
  | [x], _ => List.mem_singleton.mpr rfl
  | x :: y :: l, _ => by
    show min x (leastN (y :: l)) ∈ _
    rcases Nat.le_total x (leastN (y :: l)) with z | z
    · rw [Nat.min_eq_left z]; exact List.mem_cons_self
    · rw [Nat.min_eq_right z]; exact List.mem_cons_of_mem _ (leastN_mem (fun h => nomatch h))
theorem mostN_ge : ∀ {l : List Nat} {a : Nat}, a ∈ l → a ≤ mostN l
  | x :: l, a, h => by
    show a ≤ max x (mostN l)
    rcases List.mem_cons.mp h with z | z
    · rw [z]; exact Nat.le_max_left ..
    · exact Nat.le_trans (mostN_ge z) (Nat.le_max_right ..)
theorem mostN_mem : ∀ {l : List Nat}, l ≠ [] → mostN l ∈ l
  | [x], _ => by show max x 0 ∈ _; rw [Nat.max_eq_left (Nat.zero_le _)]; exact List.mem_singleton.mpr rfl
  | x :: y :: l, _ => by
    show max x (mostN (y :: l)) ∈ _
    rcases Nat.le_total (mostN (y :: l)) x with z | z
    · rw [Nat.max_eq_left z]; exact List.mem_cons_self
    · rw [Nat.max_eq_right z]; exact List.mem_cons_of_mem _ (mostN_mem (fun h => nomatch h))
theorem minL_nat {S : Sto} {l : List Nat} (h : l ≠ []) : oMinL S [.lst (l.map fun k : Nat => D.int (k : Int))] = some (.int (leastN l : Nat)) := by
  have e : l.map (fun k : Nat => D.int (k : Int)) = (l.map fun k : Nat => (k : Int)).map D.int := by rw [List.map_map]; rfl
  show ((some (l.map fun k : Nat => D.int (k : Int))).bind intsOf).bind _ = _
  rw [Option.bind_some, e, intsOf_map, Option.bind_some]
  have m : (l.map fun k : Nat => (k : Int)).min? = some ((leastN l : Nat) : Int) := List.min?_eq_some_iff.mpr ⟨List.mem_map_of_mem (leastN_mem h), fun b hb => by
    obtain ⟨a, ha, e⟩ := List.mem_map.mp hb
    have := leastN_le ha
    omega⟩
  rw [m]
  rfl
theorem maxL_nat {S : Sto} {l : List Nat} (h : l ≠ []) : oMaxL S [.lst (l.map fun k : Nat => D.int (k : Int))] = some (.int (mostN l : Nat)) := by
  have e : l.map (fun k : Nat => D.int (k : Int)) = (l.map fun k : Nat => (k : Int)).map D.int := by rw [List.map_map]; rfl
  show ((some (l.map fun k : Nat => D.int (k : Int))).bind intsOf).bind _ = _
  rw [Option.bind_some, e, intsOf_map, Option.bind_some]
  have m : (l.map fun k : Nat => (k : Int)).max? = some ((mostN l : Nat) : Int) := List.max?_eq_some_iff.mpr ⟨List.mem_map_of_mem (mostN_mem h), fun b hb => by
    obtain ⟨a, ha, e⟩ := List.mem_map.mp hb
    have := mostN_ge ha
    omega⟩
  rw [m]
  rfl
end DL
end L2

set_option Elab.async false
set_option linter.all false
set_option maxRecDepth 100000
set_option maxHeartbeats 1000000
/-! Exceptions: raised, caught and kept, asked for their class; xs.count(b), xs.index(b). -/
namespace L2
namespace DL
open PySem PySem.Spec PyProof.Rows

/-! ### classes -/
/-- an own exception class -/
structure ErrC (K : PySem.W.Frag) (mg : Str → Option Value) (x : Str) : Prop where
  ex : ∃ C, mg x = some (.ref C) ∧ PySem.W.excIn K C [.type "ValueError", .type "Exception", .type "BaseException", .type "object"] "ValueError.__new__" = true ∧ PySem.W.keepIn K (.ref C) = true ∧
    PySem.W.subIn K (.ref C) (.type "BaseException") = some true ∧ PySem.W.typeIn K (.ref C) = some (.type "type")
/-- the class x of a clause catches those of cs -/
structure CatC (K : PySem.W.Frag) (mg : Str → Option Value) (x : Str) (cs : List Str) : Prop where
  ex : ∃ C, mg x = some (.ref C) ∧ ∀ c ∈ cs, ∀ D, mg c = some (.ref D) → PySem.W.exmOne K (.ref D) (.ref C) = some true
/-- what isinstance tells of exceptions of the classes in tab -/
structure IsC (K : PySem.W.Frag) (mg : Str → Option Value) (x : Str) (tab : List (Str × Bool)) : Prop where
  ex : ∃ C, mg x = some (.ref C) ∧ ∀ p ∈ tab, ∀ D, mg p.1 = some (.ref D) → ExcC K D ∧ PySem.W.kitOne K (.ref D) (.ref C) = some p.2
structure IsB (K : PySem.W.Frag) (mg : Str → Option Value) (x : String) (tab : List (Str × Bool)) : Prop where
  ex : ∀ p ∈ tab, ∀ D, mg p.1 = some (.ref D) → ExcC K D ∧ PySem.W.kitOne K (.ref D) (.type x) = some p.2

/-! ### raise -/
def sRaise (x : Str) : DS := fun _ S => .exc x S
section
variable {X : Cx} {E : XK} {pos p p2 pos' : Pos} {x m : Str} {j : Nat}
theorem ds_raise (hc : X.calm = true) (tk : Takes X (WC E)) (er : ErrC X.K X.mg x) (hg : Gl X x) (hdb : (x == ("__debug__" : Str)) = false := by decide) : PS X (.Raise (some (.Call (.Name x p) [.Constant (.str m) j p2] [] pos')) none pos) (tS X E (sRaise x)) := by
  obtain ⟨C, h1, h2, h3, h4, h5⟩ := er.ex
  refine PS.imp (ps_raise hc tk (pmk_own PySem.F.excBase_ValueError h2 h1 h3 (raises_own h4 h5) hg hdb)) fun D σ H q => ?_
  obtain ⟨r, t, S, env, rel, g⟩ := q
  exact g C H r h1 (Ext.refl _ _) rel.so
end

/-! ### a caught exception is known to the heap -/
section
variable {X : Cx} {pins : List (Addr × Obj)} {σ : St} {H : Hp} {s : Shared}
theorem Inv.track {a : Addr} {o : Obj} {φ : Heap → Prop} (I : Inv X pins σ H s) (ha : s.heap.get? a = some o) (nd : ∀ v, o.data ≠ .cell v) (hn : H a = none) (nL : a ≠ X.env.locals) (n0 : X.s_0.heap.get? a = none)
    (np : ∀ p ∈ X.pn ++ pins, p.1 ≠ a) (hp : φ s.heap) (st : ∀ h1 h2 : Heap, φ h1 → (∀ o, h1.get? a = some o → h2.get? a = some o) → φ h2) : Inv X pins σ (upd H a (.ext φ)) s := by
  have up : ∀ b u, H b = some u → upd H a (.ext φ) b = some u := fun b u e => by rw [upd_ne (ne_of_none e hn)]; exact e
  refine ⟨I.ok, I.os, I.bare, ⟨I.base.keep, I.base.slot, fun b u e n hx => ?_, I.base.there, fun b xs e => up _ _ (I.base.tups b xs e), fun b u v e => up _ _ (I.base.frzs b u v e), fun b ps e => ?_⟩, I.loc, I.cell, ?_, fun x c e => ?_, fun p hm => ?_, fun b u e => ?_, I.len⟩
  · rw [upd_ne (fun z => by rw [z, n0] at e; cases e)]
    exact I.base.free b u e n hx
  · obtain ⟨more, h⟩ := I.base.tbls b ps e
    exact ⟨more, up _ _ h⟩
  · rw [upd_ne (Ne.symm nL)]
    exact I.free
  · obtain ⟨v, o', h1, h2⟩ := I.cell x c e
    rw [upd_ne (fun z => by rw [z, ha] at h1; cases h1; exact nd _ h2)]
    exact I.freeC x c e
  · obtain ⟨h1, h2, h3⟩ := I.pin p hm
    exact ⟨h1, by rw [upd_ne (np p hm)]; exact h2, h3⟩
  · by_cases z : b = a
    · subst z
      rw [upd_same] at e
      cases e
      exact ⟨hp, ⟨o, ha⟩, st⟩
    · rw [upd_ne z] at e
      exact (I.hok b u e).stay (fun c v _ q => q) (fun c q => up _ _ q) fun c xs q => up _ _ q
end
theorem excO_st {a : Addr} {cls : Value} : ∀ h1 h2 : Heap, (∃ (oe : Obj) (vs : Array Value), h1.get? a = some oe ∧ Zc cls none oe ∧ oe.data = .fields vs) → (∀ o, h1.get? a = some o → h2.get? a = some o) → ∃ (oe : Obj) (vs : Array Value), h2.get? a = some oe ∧ Zc cls none oe ∧ oe.data = .fields vs :=
  fun h1 h2 ⟨oe, vs, e, z⟩ k => ⟨oe, vs, k _ e, z⟩
/-- what 'except x as n: suite' wishes of the body's exceptions, all of them of x; behind it the exception is known -/
def wKeep (K : PySem.W.Frag) (c : Value) (i : Nat) (ts : TS) (Dn : Ends) : WX := fun cls d σ H =>
  d = none ∧ PySem.W.exmOne K cls c = some true ∧ ∀ a, H a = none → ts { nx := fun σ' H' => H' a = none → Dn.nx (σ'.set i none) (upd H' a (ExcO a cls)), rt := fun _ _ => False } (σ.set i (some (.ref a))) H
section
variable {X : Cx} {x n : Str} {c : Value} {i : Nat} {body suite : List Stmt} {b₀ : Stmt} {np pos pos' : Pos} {tb : WX → TS} {ts : TS}
theorem ps_try_keep (hs : X.stack = X.env :: X.outer) (hf : X.env.frame = some X.env.locals) (hex : X.ex = []) (hN : X.N.Nodup) (hi : X.N[i]? = some n) (hln : X.env.kindOf n = some .local) (hc : Names X x c)
    (hb : ∀ (W : WX) (pn : List (Addr × Obj)) (xe : Value → Shared → Prop), Takes (X.tr pn xe) W → PSs (X.tr pn xe) body (tb W))
    (hsu : ∀ (a : Addr) (oe : Obj) (pn : List (Addr × Obj)), PSs (X.suite a ((a, oe) :: pn)) (b₀ :: suite) ts) :
    PS X (.Try body [.ExceptHandler (some (.Name x np)) (some n) (b₀ :: suite) pos'] [] [] pos) (fun Dn σ H => tb (wKeep X.K c i ts Dn) Dn σ H) := by
  refine ⟨fun pins s σ H Dn I h => wpAny_Try_except ?_⟩
  have ok := I.ok
  have frames : X.A.frames = some (X.env :: X.outer) := ok.frames.trans (congrArg some hs)
  refine wpAny_mono ((hb (wKeep X.K c i ts Dn) (X.pn ++ pins) _ fun u s' air => ?_).run [] s σ H Dn (I.toTry _) h) (fun fl s1 e => ?_) fun _ _ e => e
  · obtain ⟨a, B, sI, _, σ', H', cls, d, rfl, J', nb, up, sky, na, os, ag, hd, hm, hyes⟩ := air
    subst hd
    have J : Inv X pins σ' H' sI := J'.ofTry ok
    rw [show (X.tr (X.pn ++ pins) _).stack = X.env :: X.outer from hs] at sky
    refine Sky.land Zc.steady frames hf sky fun g1 f1 u1 => ?_
    obtain ⟨o1, v1, e1, z1, d1⟩ := f1.there
    have aB : B.get? a = none := f1.2.1
    have aFr : a ∉ frs (X.env :: X.outer) := fun q => by
      obtain ⟨_, o', e', hcell⟩ := f1.2.2.1.mem q
      rw [e1] at e'
      cases e'
      exact hcell _ d1
    have aL : a ≠ X.env.locals := fun q => aFr (List.mem_filterMap.mpr ⟨X.env, List.mem_cons_self, by rw [hf, q]⟩)
    have aF : a ∉ X.fs := fun q => by
      obtain ⟨e, he, q⟩ := List.mem_filterMap.mp q
      exact aFr (List.mem_filterMap.mpr ⟨e, List.mem_cons_of_mem _ he, q⟩)
    have aI : sI.heap.get? a = none := by
      cases q : sI.heap.get? a with
      | none => rfl
      | some o =>
        have z := nb a o q (by rw [hs]; exact aFr)
        rw [aB] at z
        cases z
    have a0 : X.s_0.heap.get? a = none := by
      cases q : X.s_0.heap.get? a with
      | none => rfl
      | some o =>
        obtain ⟨o', z⟩ := J.base.there a o q (by rw [hex]; exact fun z => nomatch z)
        rw [aI] at z
        cases z
    have aP : ∀ p ∈ X.pn ++ pins, p.1 ≠ a := fun p hp q => by
      have z := (J.pin p hp).1
      rw [q, aI] at z
      cases z
    have J1 : Inv X pins σ' H' { s' with heap := g1 } := J.landed nb f1.1 (up.trans u1) os ag
    have S1 := J1.suite e1 d1 na aL aF
    refine wpAny_handleBy_cons (codeAny_handlers_test ?_) (fun q => nomatch q)
    have tyA : PySem.W.Looks (model X.prog X.w) g1 (typeOf (.ref a)) cls := fun A Q E s k q => wpAny_typeOf_ref (k _ _ e1) (by rw [z1.1]; exact q)
    have look : ∀ {Q E : Value → Shared → Prop}, Q c { s' with heap := g1 } → wpAny (model X.prog X.w) (X.A.mark (some (.ref a))) (eval (.Name x np) X.env) Q E { s' with heap := g1 } := fun q => by
      obtain ⟨k1, k2, k3 | ⟨k3, k4, k5⟩⟩ := hc
      · exact ld_glob (X := X.suite a ((a, o1) :: (X.pn ++ pins))) S1 k1 k3 q k2
      · exact ld_blt (X := X.suite a ((a, o1) :: (X.pn ++ pins))) S1 k1 k3 k4 q k5 k2
    refine look ((PySem.W.exm_one (M := model X.prog X.w) J1.kIn tyA hm).here (codeAny_handlers_suite_as (HandSPX.lands_againZ f1 fun g2 f2 u2 => ?_)))
    have J2 : Inv X pins σ' H' { s' with heap := g2 } := J.landed nb f2.1 ((up.trans u1).trans u2) os ag
    obtain ⟨o2, v2, e2, z2, d2⟩ := f2.there
    refine store_ok (X := X.suite a ((a, o2) :: (X.pn ++ pins))) (v := .ref a) (J2.suite e2 d2 na aL aF) hN hi (.inl hln) rfl (fun s5 S5 => ?_) (.inr hln)
    refine wpAny_mono ((hsu a o2 (X.pn ++ pins)).run [] s5 _ H' _ S5 (hyes a na)) (fun fl s6 q => ?_) fun _ _ z => False.elim z
    cases fl with
    | next =>
      obtain ⟨σ6, H6, S6, q6⟩ := q
      obtain ⟨p1, p2, _, _, _⟩ := S6.pin (a, o2) List.mem_cons_self
      have T6 : Inv X pins σ6 (upd H6 a (ExcO a cls)) s6 := Inv.track (S6.unsuite ok) p1 (fun v z => by rw [show (a, o2).2 = o2 from rfl, d2] at z; cases z) p2 aL a0 aP ⟨o2, v2, p1, z2, d2⟩ excO_st
      exact gone_ok T6 hN hi hln fun s7 J7 => ⟨_, _, J7, q6 p2⟩
    | brk => obtain ⟨_, _, _, z⟩ := q; exact z.elim
    | cont => obtain ⟨_, _, _, z⟩ := q; exact z.elim
    | ret u => obtain ⟨_, _, _, _, _, z⟩ := q; exact z.elim
  · cases fl with
    | next => obtain ⟨σ', H', J, q⟩ := e; exact wpAny_execs_nil ⟨σ', H', J.ofTry ok, q⟩
    | brk => obtain ⟨σ', H', J, q⟩ := e; exact ⟨σ', H', J.ofTry ok, q⟩
    | cont => obtain ⟨σ', H', J, q⟩ := e; exact ⟨σ', H', J.ofTry ok, q⟩
    | ret u => obtain ⟨v, σ', H', J, r, q⟩ := e; exact ⟨v, σ', H', J.ofTry ok, r, q⟩
end
/-- a reading whose exceptions may ask for the slots; for statements that set none -/
def tSW (X : Cx) (W : WX) (f : DS) : TS := fun Dn σ H => ∃ r t S env, Rel X.K X.mg H r t S env σ ∧ Good X.K X.mg t (EW W σ) r H (f env S) (RS X Dn t)
section
variable {X : Cx} {W : WX} {E : XK} {e : Expr} {st : Stmt} {f g : DS} {fe : DE} {pos : Pos}
theorem dw_one (h : PS X st (tSW X W f)) : PSs X [st] (tSW X W f) := pss_one h
theorem dw_nil : PSs X [] (tSW X W sNil) := PSs.imp pss_nil fun D σ H q => by
  obtain ⟨r, t, S, env, rel, g⟩ := q
  exact g.here rel.so σ rel
theorem dw_expr (he : PE X e (tE X W fe)) (hs : swapsWith e none pos.line X.env = pure false := by rfl) : PS X (.Expr e pos) (tSW X W (sExpr fe)) := by
  refine PS.imp (ps_expr he hs) fun D σ H q => ?_
  obtain ⟨r, t, S, env, rel, g0⟩ := q
  exact ⟨r, t, S, env, rel, g0.bind.mono fun d S1 r1 H1 ex so g1 v dv => Good.here g1 so σ (rel.ext ex so)⟩
theorem dw_if {c : Expr} {a b : List Stmt} {tc : DB} (hc : PT X c (tB' X W tc)) (ha : PSs X a (tSW X W f)) (hb : PSs X b (tSW X W g)) : PS X (.If c a b pos) (tSW X W (sIf tc f g)) := by
  refine PS.imp (ps_if hc ha hb) fun D σ H q => ?_
  obtain ⟨r, t, S, env, rel, g0⟩ := q
  refine ⟨r, t, S, env, rel, g0.bind.mono fun k S1 r1 H1 ex so g1 => ?_⟩
  cases k with
  | true => exact ⟨r1, t, S1, env, rel.ext ex so, g1⟩
  | false => exact ⟨r1, t, S1, env, rel.ext ex so, g1⟩
end
/-- try: g / except .. as n: m = n, where the body raises but those of cs; i is n's slot, j m's -/
def sTryK (cs : List Str) (i j : Nat) (g : DS) : DS := fun env S => match g env S with
  | .ok p S1 => .ok p S1
  | .exc c S1 => if c ∈ cs ∧ i < env.length then .ok (.nx, ((env.set i (some (.ref S1.length))).set j (some (.ref S1.length))).set i none) (S1 ++ [.exc c]) else .bad
  | .bad => .bad
theorem ds_tryK {X : Cx} {E : XK} {x n m : Str} {i j : Nat} {cs : List Str} {body : List Stmt} {g : DS} {np pos pos' spos p1 p2 : Pos} (hs : X.stack = X.env :: X.outer) (hf : X.env.frame = some X.env.locals) (hex : X.ex = []) (hN : X.N.Nodup) (hij : i ≠ j)
    (ct : CatC X.K X.mg x cs) (hg : Gl X x)
    (hb : ∀ (W : WX) (pn : List (Addr × Obj)) (xe : Value → Shared → Prop), Takes (X.tr pn xe) W → PSs (X.tr pn xe) body (tSW (X.tr pn xe) W g))
    (hi : X.N[i]? = some n := by rfl) (hj : X.N[j]? = some m := by rfl) (hln : X.env.kindOf n = some .local := by rfl) (hlm : X.env.kindOf m = some .local := by rfl) (hdb : (x == ("__debug__" : Str)) = false := by decide)
    (hd : (n == ("__debug__" : Str)) = false := by decide) (hcd : (n == ("__classdict__" : Str)) = false := by decide) (hsw : ∀ a oe pn, swapsWith (.Name n p1) (some (.Name m p2)) spos.line (X.suite a ((a, oe) :: pn)).env = pure false := by intro _ _ _; rfl) :
    PS X (.Try body [.ExceptHandler (some (.Name x np)) (some n) [.Assign [.Name m p2] (.Name n p1) spos] pos'] [] [] pos) (tS X E (sTryK cs i j g)) := by
  obtain ⟨C, hC, hmt⟩ := ct.ex
  have hkm : X.env.scope.names.lookup m = some .local := hlm
  have hkn : X.env.scope.names.lookup n = some .local := hln
  refine PS.imp (ps_try_keep (ts := tAsg (tVar i) (gName j)) (tb := fun W => tSW X W g) hs hf hex hN hi hln ⟨hg, hdb, .inl hC⟩ hb fun a oe pn => pss_one (ps_set (i := j) hN hj (.inl hkm) (pe_var hi (.inl hkn) hd hcd) (hsw a oe pn) (.inr hkm))) fun Dn σ H q => ?_
  obtain ⟨r, t, S, env, rel, q⟩ := q
  refine ⟨r, t, S, env, rel, ?_⟩
  unfold sTryK at q
  cases hgo : g env S with
  | ok p S1 => rw [hgo] at q; exact q
  | bad => rw [hgo] at q; exact (show False from q).elim
  | exc c S1 =>
    rw [hgo] at q
    dsimp only at q
    by_cases hc : c ∈ cs ∧ i < env.length
    · rw [if_pos hc] at q
      intro D H' r' hD ex so
      have hl : i < σ.length := by rw [← rel.len]; exact hc.2
      refine ⟨rfl, hmt c hc.1 D hD, fun a na => ⟨.ref a, List.getElem?_set_self hl, fun _ => ?_⟩⟩
      have ex2 := ex.trans (Ext.grow (r := r') (o := ExcO a (.ref D)) na)
      have so2 : SOk X.K X.mg (upd H' a (ExcO a (.ref D))) (r' ++ [a]) t (S1 ++ [.exc c]) := so.grow na ⟨D, hD, upd_same⟩
      have dn : Den X.K (upd H' a (ExcO a (.ref D))) (r' ++ [a]) t (.ref a) (.ref S1.length) := .ref (by rw [← so.len, List.getElem?_append_right (Nat.le_refl _), Nat.sub_self]; rfl)
      exact q _ _ ex2 so2 _ ((((rel.ext ex2 so2).set i dn).set j dn).wipe i)
    · rw [if_neg hc] at q
      exact (show False from q).elim

/-! ### isinstance(e, X) -/
theorem call_isX {X : Cx} : CallR X (.builtin "isinstance") (fun xs H Q => ∃ (a D : Addr) (c : V) (cv : Value) (b : Bool), xs = [.ref a, c] ∧ ExcC X.K D ∧ H a = some (ExcO a (.ref D)) ∧ (∀ u, RelV c u → u = cv) ∧ PySem.W.kitOne X.K (.ref D) cv = some b ∧ Q (.bl b) H) := by
  intro pins s σ H xs us Q I r h
  obtain ⟨a, D, c, cv, b, rfl, C, ha, hcv, e, q⟩ := h
  obtain ⟨u1, u2, rfl, r1, r2⟩ := vals2 r
  cases r1
  have ec := hcv _ r2
  subst ec
  obtain ⟨⟨oe, vs, h1, h2, h3⟩, _, _⟩ := I.hok a _ ha
  have J : PySem.W.InstAt s.heap a oe D none := by
    obtain ⟨oc, od, oda, osl⟩ := oe
    obtain ⟨k1, k2⟩ := h2
    dsimp only at k1 k2 h3
    subst k1 k2 h3
    exact ⟨h1, rfl, rfl, trivial⟩
  exact PySem.W.kia_one (PySem.W.handS_kitx_exc C.hg C.hk C.hs C.hd C.ha C.hn C.ht C.hm) I.kIn J e (fun z => nomatch z) fun tk => ⟨.bl b, H, I.tok tk, rfl, q⟩
def isV (tab : List (Str × Bool)) (S : Sto) : D → Option D
  | .ref n => match S[n]? with
    | some (.exc c) => (tab.lookup c).map D.bl
    | _ => none
  | _ => none
def dIsE (tab : List (Str × Bool)) (fe : DE) : DE := fun env S => (fe env S).bind fun d S1 => lift (isV tab S1 d) S1
theorem lookup_mem : ∀ {tab : List (Str × Bool)} {c : Str} {b : Bool}, tab.lookup c = some b → (c, b) ∈ tab
  | [], _, _, h => by cases h
  | (k, v) :: r, c, b, h => by
    rw [List.lookup_cons] at h
    by_cases e : c = k
    · subst e
      rw [show (c == c) = true from beq_self_eq_true c] at h
      cases h
      exact List.mem_cons_self
    · rw [show (c == k) = false from beq_eq_false_iff_ne.mpr e] at h
      exact List.mem_cons_of_mem _ (lookup_mem h)
section
variable {X : Cx} {W : WX} {e : Expr} {fe : DE} {p p2 pos : Pos} {x : Str} {tab : List (Str × Bool)}
theorem isE_read {c : V} {cv : Value} {te : TE} (he : ∀ σ H Q, te σ H Q = Q c H) (hcv : ∀ u, RelV c u → u = cv) (ht : ∀ q ∈ tab, ∀ D, X.mg q.1 = some (.ref D) → ExcC X.K D ∧ PySem.W.kitOne X.K (.ref D) cv = some q.2) {σ : St} {H : Hp} {Q : VK} (q : tE X W (dIsE tab fe) σ H Q) :
    tCB (fun xs H Q => ∃ (a D : Addr) (c : V) (cv : Value) (b : Bool), xs = [.ref a, c] ∧ ExcC X.K D ∧ H a = some (ExcO a (.ref D)) ∧ (∀ u, RelV c u → u = cv) ∧ PySem.W.kitOne X.K (.ref D) cv = some b ∧ Q (.bl b) H) (tCons (tE X W fe) (tCons te tNil)) σ H Q := by
  obtain ⟨r, t, S, env, rel, g⟩ := q
  refine ⟨r, t, S, env, rel, g.bind.mono fun d S1 r1 H1 ex so g1 v dv => ?_⟩
  show te σ H1 _
  rw [he]
  obtain ⟨y, ey, g2⟩ := g1.lift
  unfold isV at ey
  split at ey
  · rename_i n
    split at ey
    · rename_i k hS
      obtain ⟨b, hl, e2⟩ := Option.map_eq_some_iff.mp ey
      subst e2
      cases dv with
      | @ref a n hn =>
        obtain ⟨D, hD, ha⟩ := so.ok n a _ hn hS
        obtain ⟨h1, h2⟩ := ht _ (lookup_mem hl) D hD
        exact ⟨a, D, c, cv, b, rfl, h1, ha, hcv, h2, Good.here g2 so _ (.bl b)⟩
    · cases ey
  · cases ey
theorem de_isE (ic : IsC X.K X.mg x tab) (he : PE X e (tE X W fe)) (hg2 : Gl X x) (hm : X.mg "isinstance" = none) (hg : Gl X "isinstance" := by rfl) (hdb : (x == ("__debug__" : Str)) = false := by decide)
    (hs : starEach [e, .Name x p2] X.env = (false, eval e X.env) :: starEach [.Name x p2] X.env := by rfl) (hpl : (backTo pos (starEach [.Name x p2] X.env)).any (·.1) = false := by rfl) :
    PE X (.Call (.Name "isinstance" p) [e, .Name x p2] [] pos) (tE X W (dIsE tab fe)) := by
  obtain ⟨C, hC, ht⟩ := ic.ex
  exact PE.imp (pe_callB call_isX hg hm (by decide +kernel) (pa_cons he (pa_cons (pe_glob (v := .ref C) hg2 hC rfl hdb) pa_nil) hs) (by decide) (by decide) hs hpl) fun σ H Q q => isE_read (c := .ref C) (cv := .ref C) (fun _ _ _ => rfl) (fun u h => h) ht q
theorem de_isB {T : String} (ib : IsB X.K X.mg T tab) (he : PE X e (tE X W fe)) (hx : x = Str.ofString T) (hg2 : Gl X x) (hm2 : X.mg x = none) (hv : bootBuiltins x = some (.type T)) (hm : X.mg "isinstance" = none) (hg : Gl X "isinstance" := by rfl) (hdb : (x == ("__debug__" : Str)) = false := by decide) (hn : x ≠ "__name__" := by decide)
    (hs : starEach [e, .Name x p2] X.env = (false, eval e X.env) :: starEach [.Name x p2] X.env := by rfl) (hpl : (backTo pos (starEach [.Name x p2] X.env)).any (·.1) = false := by rfl) :
    PE X (.Call (.Name "isinstance" p) [e, .Name x p2] [] pos) (tE X W (dIsE tab fe)) :=
  PE.imp (pe_callB call_isX hg hm (by decide +kernel) (pa_cons he (pa_cons (pe_bltn (v := .ty T) hg2 hm2 hv rfl hn hdb) pa_nil) hs) (by decide) (by decide) hs hpl) fun σ H Q q => isE_read (c := .ty T) (cv := .type T) (fun _ _ _ => rfl) (fun u h => h) ib.ex q
end

/-! ### xs.count(b), xs.index(b), a list of truths -/
section
variable {X : Cx}
theorem vals_bls : ∀ {bs : List Bool} {us : List Value}, Vals (bs.map V.bl) us → us = bs.map Value.bool
  | [], _, h => by cases h; rfl
  | b :: bs, _, h => by
    cases h with
    | cons h1 h2 =>
      cases h1
      rw [vals_bls h2]
      rfl
def bE (b : Bool) : Value → Bool
  | .bool c => c == b
  | _ => false
theorem bE_at {A : Around} {s : Shared} {bs : List Bool} {b : Bool} : ∀ y, y ∈ (bs.map Value.bool).toArray → SeqAt.EqAt A s y (.bool b) (bE b y) := fun y hy => by
  obtain ⟨c, _, e⟩ := List.mem_map.mp (show y ∈ bs.map Value.bool by simpa using hy)
  subst e
  exact SeqAt.EqAt.bool_bool c b
theorem mt_countB : MtR X "list.count" (fun x xs H Q => ∃ (p : Addr) (bs : List Bool) (b : Bool), x = .ref p ∧ xs = [.bl b] ∧ SqL X.K H p (bs.map V.bl) ∧ Q (.int (bs.count b : Nat)) H) := by
  intro pins s σ H x xs v us Q I rx rxs h
  obtain ⟨p, bs, b, rfl, rfl, hs, q⟩ := h
  cases rx
  obtain ⟨u, rfl, ru⟩ := rxs.one
  cases ru
  obtain ⟨its, rv, ⟨⟨cls, dd, data, sl⟩, n, ho, hc, hdn, hd⟩, hlen⟩ := I.list hs
  simp only at hc hd
  subst hc hd
  have e := vals_bls rv
  subst e
  refine call_meets PySem.F.slot_list_count ⟨_, ho, rfl⟩ PySem.F.entry_list_count (PySem.F.args_list_count_2 _ _)
    (SeqAt.list_countAt p (bs.map Value.bool).toArray n dd sl (.bool b) (bE b)) ⟨ho, bE_at, ?_⟩
  have ec : (bs.map Value.bool).toArray.toList.countP (bE b) = bs.count b := by
    show (bs.map Value.bool).countP (bE b) = _
    rw [List.countP_map]
    rfl
  refine ⟨.int (bs.count b : Nat), H, I.tok _, ⟨s.toks, ?_⟩, q⟩
  show Value.int (((bs.map Value.bool).toArray.toList.countP (bE b) : Nat) : Int) s.toks = Value.int ((bs.count b : Nat) : Int) s.toks
  rw [ec]
theorem mt_indexB : MtR X "list.index" (fun x xs H Q => ∃ (p : Addr) (bs : List Bool) (b : Bool), x = .ref p ∧ xs = [.bl b] ∧ SqL X.K H p (bs.map V.bl) ∧ b ∈ bs ∧ Q (.int (bs.idxOf b : Nat)) H) := by
  intro pins s σ H x xs v us Q I rx rxs h
  obtain ⟨p, bs, b, rfl, rfl, hs, hb, q⟩ := h
  cases rx
  obtain ⟨u, rfl, ru⟩ := rxs.one
  cases ru
  obtain ⟨its, rv, ⟨⟨cls, dd, data, sl⟩, n, ho, hc, hdn, hd⟩, hlen⟩ := I.list hs
  simp only at hc hd
  subst hc hd
  have e := vals_bls rv
  subst e
  have hsz := sizeLine_eq
  have hj : bs.idxOf b < bs.length := List.idxOf_lt_length_iff.mpr hb
  have hl : bs.length ≤ sizeLine := by rw [List.length_map] at hlen; exact hlen
  refine call_meets PySem.F.slot_list_index ⟨_, ho, rfl⟩ PySem.F.entry_list_index (PySem.F.args_list_index_2 _ _)
    (SeqAt.list_indexAt p (bs.map Value.bool).toArray n dd sl (.bool b) (bE b) (bs.idxOf b) (by simpa using hj) (by omega) ?_ fun m hm hlt => ?_) ⟨ho, bE_at, ?_⟩
  · have e : (bs.map Value.bool).toArray[bs.idxOf b]'(by simpa using hj) = .bool (bs[bs.idxOf b]) := by simp
    rw [e, List.getElem_idxOf hj]
    exact beq_self_eq_true b
  · have hm2 : m < bs.length := by simpa using hm
    have e : (bs.map Value.bool).toArray[m] = .bool bs[m] := by simp
    rw [e]
    have z := List.not_of_lt_findIdx (p := fun c => c == b) (xs := bs) (i := m) hlt
    show (bs[m] == b) = false
    simpa using z
  · exact ⟨.int (bs.idxOf b : Nat), H, I.tok _, ⟨s.toks, rfl⟩, q⟩
end
def oCountB : Sto → D → D → Option D := fun S x y => match y with
  | .bl b => ((listOf S x).bind blsOf).map fun bs => .int (bs.count b : Nat)
  | _ => none
def oIndexB : Sto → D → D → Option D := fun S x y => match y with
  | .bl b => ((listOf S x).bind blsOf).bind fun bs => if b ∈ bs then some (.int (bs.idxOf b : Nat)) else none
  | _ => none
section
variable {X : Cx} {W : WX} {e : Expr} {fo fa : DE}
theorem listOf_there {S : Sto} {d : D} {ds : List D} (h : listOf S d = some ds) : True := trivial
/-- x.name(y), the thing a list -/
def dMeth (o : Sto → D → D → Option D) (fo fa : DE) : DE := fun env S => (fo env S).bind fun x S1 => if (listOf S1 x).isSome = true then (fa env S1).bind fun y S2 => lift (o S2 x y) S2 else .bad
theorem de_meth {rr : V → List V → Hp → VK → Prop} {o : Sto → D → D → Option D} (hb : PE X e (tBM X.K "list" rr (tE X W fo) (tCons (tE X W fa) tNil)))
    (ho : ∀ (r t : List Addr) (S : Sto) (H : Hp) (v u : V) (x y d : D) (Q : VK), SOk X.K X.mg H r t S → Den X.K H r t v x → Den X.K H r t u y → o S x y = some d → (∀ w, Den X.K H r t w d → Q w H) → rr v [u] H Q) : PE X e (tE X W (dMeth o fo fa)) := by
  refine PE.imp hb fun σ H Q q => ?_
  obtain ⟨r, t, S, env, rel, g⟩ := q
  refine ⟨r, t, S, env, rel, g.bind.mono fun od S1 r1 H1 ex so g1 v dv => ?_⟩
  have rel1 := rel.ext ex so
  obtain ⟨hty, g2⟩ := g1.ite
  obtain ⟨ds, hds⟩ := Option.isSome_iff_exists.mp hty
  obtain ⟨a, xs, ev, ha1, _⟩ := list_ok so dv hds
  refine ⟨by rw [ev]; exact Or.inl ⟨rfl, _, ha1⟩, r1, t, S1, env, rel1, g2.bind.mono fun y S2 r2 H2 ex2 so2 g3 yv dy => ?_⟩
  obtain ⟨d, ed, g4⟩ := g3.lift
  exact ho r2 t S2 H2 v yv od y d Q so2 (Den.ext ex2 _ _ dv) dy ed (Good.here g4 so2)
theorem de_countB (hb : PE X e (tBM X.K "list" (fun x xs H Q => ∃ (p : Addr) (bs : List Bool) (b : Bool), x = .ref p ∧ xs = [.bl b] ∧ SqL X.K H p (bs.map V.bl) ∧ Q (.int (bs.count b : Nat)) H) (tE X W fo) (tCons (tE X W fa) tNil))) : PE X e (tE X W (dMeth oCountB fo fa)) :=
  de_meth hb fun r t S H v u x y d Q so dx dy e q => by
    unfold oCountB at e
    split at e
    · obtain ⟨bs, h1, h2⟩ := Option.map_eq_some_iff.mp e
      obtain ⟨es, h3, h4⟩ := Option.bind_eq_some_iff.mp h1
      subst h2
      obtain ⟨a, xs, rfl, h5, z⟩ := list_ok so dx h3
      cases dy
      rw [bls_eq h4] at z
      rw [z.bls] at h5
      exact ⟨a, bs, _, rfl, rfl, h5, q _ (.int _)⟩
    · cases e
theorem de_indexB (hb : PE X e (tBM X.K "list" (fun x xs H Q => ∃ (p : Addr) (bs : List Bool) (b : Bool), x = .ref p ∧ xs = [.bl b] ∧ SqL X.K H p (bs.map V.bl) ∧ b ∈ bs ∧ Q (.int (bs.idxOf b : Nat)) H) (tE X W fo) (tCons (tE X W fa) tNil))) : PE X e (tE X W (dMeth oIndexB fo fa)) :=
  de_meth hb fun r t S H v u x y d Q so dx dy e q => by
    unfold oIndexB at e
    split at e
    · obtain ⟨bs, h1, e2⟩ := Option.bind_eq_some_iff.mp e
      obtain ⟨es, h3, h4⟩ := Option.bind_eq_some_iff.mp h1
      split at e2
      · rename_i hb
        cases e2
        obtain ⟨a, xs, rfl, h5, z⟩ := list_ok so dx h3
        cases dy
        rw [bls_eq h4] at z
        rw [z.bls] at h5
        exact ⟨a, bs, _, rfl, rfl, h5, hb, q _ (.int _)⟩
      · cases e2
    · cases e
end

/-! ### what comes out: an exception -/
structure Ex {A : Type} (m : Out A) (c : Str) (Q : Sto → Prop) : Prop where
  get : ∃ S, m = .exc c S ∧ Q S
section
variable {A B : Type} {c : Str} {Q : Sto → Prop} {P : D → Sto → Prop} {PF : Fl × Ev → Sto → Prop} {f g : DS} {fe fo fa : DE} {fs : DA} {tc : DB} {fn : Fn} {env : Ev} {S : Sto} {n : Nat} {ds : List D}
theorem ex_of {m : Out A} (h : m = .exc c S) (q : Q S) : Ex m c Q := ⟨S, h, q⟩
theorem Ex.bind1 {m : Out A} {k : A → Sto → Out B} (h : Ex m c Q) : Ex (m.bind k) c Q := by
  obtain ⟨S, e, q⟩ := h.get
  exact ⟨S, by rw [e]; rfl, q⟩
theorem Ex.bind2 {m : Out A} {k : A → Sto → Out B} (h : Wp m fun a S => Ex (k a S) c Q) : Ex (m.bind k) c Q := by
  obtain ⟨a, S, e, q⟩ := h.get
  rw [e]
  exact q
theorem ex_seq1 (h : Ex (f env S) c Q) : Ex (sSeq f g env S) c Q := h.bind1
theorem ex_seq2 (h : Wp (f env S) fun p S1 => p.1 = .nx ∧ Ex (g p.2 S1) c Q) : Ex (sSeq f g env S) c Q := Ex.bind2 (h.mono fun p S1 q => by
  obtain ⟨fl, e⟩ := p
  obtain ⟨q1, q2⟩ := q
  cases q1
  exact q2)
theorem ex_expr (h : Ex (fe env S) c Q) : Ex (sExpr fe env S) c Q := h.bind1
theorem ex_ret (h : Ex (fe env S) c Q) : Ex (sRet fe env S) c Q := h.bind1
theorem ex_if (h : Wp (tc env S) fun b S1 => Ex (if b = true then f env S1 else g env S1) c Q) : Ex (sIf tc f g env S) c Q := Ex.bind2 h
theorem ex_raise (h : Q S) : Ex (sRaise c env S) c Q := ⟨S, rfl, h⟩
theorem ex_callF (h : Wp (fs env S) fun ds S1 => Ex (fn ds S1) c Q) : Ex (dCallF fn fs env S) c Q := Ex.bind2 h
theorem ex_fun (h : Ex (g (ds.map some ++ List.replicate (n - ds.length) none) S) c Q) : Ex (dFun n g ds S) c Q := h.bind1
theorem Ex.mono {m : Out A} {Q' : Sto → Prop} (h : Ex m c Q) (k : ∀ S, Q S → Q' S) : Ex m c Q' := by
  obtain ⟨S, e, q⟩ := h.get
  exact ⟨S, e, k S q⟩
/-- a try whose body raises, or does not -/
theorem w_TryX {cs : List Str} {i j : Nat} (h : Ex (g env S) c fun S1 => PF (.nx, ((env.set i (some (.ref S1.length))).set j (some (.ref S1.length))).set i none) (S1 ++ [.exc c])) (hc : c ∈ cs) (hi : i < env.length) : Wp (sTryK cs i j g env S) PF := by
  obtain ⟨S1, e, q⟩ := h.get
  refine ⟨_, _, ?_, q⟩
  unfold sTryK
  rw [e]
  exact if_pos ⟨hc, hi⟩
theorem w_Try {cs : List Str} {i j : Nat} (h : Wp (g env S) PF) : Wp (sTryK cs i j g env S) PF := by
  obtain ⟨p, S1, e, q⟩ := h.get
  refine ⟨_, _, ?_, q⟩
  unfold sTryK
  rw [e]
def kIsE (tab : List (Str × Bool)) (P : D → Sto → Prop) (x : D) (S : Sto) : Prop := Wp (lift (isV tab S x) S) P
theorem w_IsE {tab : List (Str × Bool)} : Wp (dIsE tab fe env S) P = Wp (fe env S) (kIsE tab P) := by
  unfold dIsE
  simp only [wp_bind]
  rfl
theorem k_IsE {tab : List (Str × Bool)} {x : D} : kIsE tab P x S = Wp (lift (isV tab S x) S) P := rfl
theorem isV_ref {tab : List (Str × Bool)} (h : S[n]? = some (.exc c)) : isV tab S (.ref n) = (tab.lookup c).map D.bl := by
  unfold isV
  dsimp only
  rw [h]
def kMeth1 (o : Sto → D → D → Option D) (fa : DE) (env : Ev) (P : D → Sto → Prop) (x : D) (S : Sto) : Prop := (listOf S x).isSome = true ∧ Wp (fa env S) fun y S2 => Wp (lift (o S2 x y) S2) P
theorem w_Meth {o : Sto → D → D → Option D} (h : Wp (fo env S) (kMeth1 o fa env P)) : Wp (dMeth o fo fa env S) P := by
  unfold dMeth
  rw [wp_bind]
  refine h.mono fun x S1 q => ?_
  rw [if_pos q.1, wp_bind]
  exact q.2
end
theorem err_c {A : Type} {p : A → Prop} {a : A} {l : List A} (h : p a) (k : ∀ d ∈ l, p d) : ∀ d ∈ a :: l, p d := fun d hd => by
  rcases List.mem_cons.mp hd with e | e
  · rw [e]; exact h
  · exact k d e
theorem err_n {A : Type} {p : A → Prop} : ∀ d ∈ ([] : List A), p d := fun d hd => nomatch hd
end DL
end L2

set_option Elab.async false
set_option linter.all false
set_option maxRecDepth 100000
set_option maxHeartbeats 1000000
/-! Comprehensions over a list that may be changed; comprehensions whose list is changed afterwards. -/
namespace L2
namespace DL
open PySem PySem.Spec PyProof.Rows

/-! ### a hidden list becomes a cell -/
section
variable {K : PySem.W.Frag} {mg : Str → Option Value} {H : Hp} {r t : List Addr} {p : Addr}
mutual
theorem Den.bare : ∀ (d : D) (v : V), Den K H r (p :: t) v d → Den K H (r ++ [p]) t v d
  | .non, _, h => by cases h; exact .non
  | .bl b, _, h => by cases h; exact .bl b
  | .int i, _, h => by cases h; exact .int i
  | .str x, _, h => by cases h; exact .str x
  | .ty n, _, h => by cases h; exact .ty n
  | .tup ds, _, h => by
    cases h with
    | tup h z => exact .tup h (DenL.bare ds _ z)
  | .lst ds, _, h => by
    cases h with
    | @lst a xs _ h n m z =>
      refine .lst h (fun q => ?_) (fun q => m (List.mem_cons_of_mem _ q)) (DenL.bare ds _ z)
      rcases List.mem_append.mp q with q | q
      · exact n q
      · exact m (by rw [List.mem_singleton.mp q]; exact List.mem_cons_self)
  | .fz ds, _, h => by
    cases h with
    | fz h z => exact .fz h (DenL.bare ds _ z)
  | .ref n, _, h => by
    cases h with
    | ref h => exact .ref (by rw [List.getElem?_append_left (List.getElem?_eq_some_iff.mp h).1]; exact h)
theorem DenL.bare : ∀ (ds : List D) (vs : List V), DenL K H r (p :: t) vs ds → DenL K H (r ++ [p]) t vs ds
  | [], _, h => by cases h; exact .nil
  | d :: ds, _, h => by
    cases h with
    | cons h1 h2 => exact .cons (Den.bare d _ h1) (DenL.bare ds _ h2)
end
theorem DenP.bare {κ : Type} {xs : List (κ × V)} {ds : List (κ × D)} (h : DenP K H r (p :: t) xs ds) : DenP K H (r ++ [p]) t xs ds := ⟨h.1, DenL.bare _ _ h.2⟩
theorem CellOk.bare {a : Addr} {c : Cell} (h : CellOk K mg H r (p :: t) a c) : CellOk K mg H (r ++ [p]) t a c := by
  cases c with
  | lst ds => obtain ⟨xs, h1, z⟩ := h; exact ⟨xs, h1, DenL.bare _ _ z⟩
  | dK ds => obtain ⟨xs, h1, z⟩ := h; exact ⟨xs, h1, z.bare⟩
  | dT ds => obtain ⟨xs, h1, z⟩ := h; exact ⟨xs, h1, z.bare⟩
  | ins c fs => obtain ⟨C, dx, ps, h1, h2, h3, z⟩ := h; exact ⟨C, dx, ps, h1, h2, h3, z.bare⟩
  | exc c => exact h
  | fK ds => obtain ⟨o, xs, h1, z⟩ := h; exact ⟨o, xs, h1, z.bare⟩
  | fT ds => obtain ⟨o, xs, h1, z⟩ := h; exact ⟨o, xs, h1, z.bare⟩
theorem SOk.bare {S : Sto} {accV : List V} {acc : List D} (hpt : p ∉ t) (so : SOk K mg H r (p :: t) S) (hp : H p = some (.lst accV)) (z : DenL K H r (p :: t) accV acc) : SOk K mg H (r ++ [p]) t (S ++ [.lst acc]) := by
  have np := (so.hid p List.mem_cons_self).2
  refine ⟨by rw [List.length_append, List.length_append, so.len]; rfl, ?_, fun n a c h1 h2 => ?_, fun a ha => ⟨(so.hid a (List.mem_cons_of_mem _ ha)).1, fun q => ?_⟩⟩
  · rw [List.nodup_append]
    refine ⟨so.nd, by simp, fun a ha b hb => ?_⟩
    rw [List.mem_singleton.mp hb]
    exact fun e => np (e ▸ ha)
  · by_cases hn : n < r.length
    · rw [List.getElem?_append_left hn] at h1
      rw [List.getElem?_append_left (by rw [← so.len]; exact hn)] at h2
      exact (so.ok n a c h1 h2).bare
    · rw [List.getElem?_append_right (by omega)] at h1
      rw [List.getElem?_append_right (by rw [← so.len]; omega), ← so.len] at h2
      have e : n - r.length = 0 := by
        have := (List.getElem?_eq_some_iff.mp h1).1
        rw [List.length_singleton] at this
        omega
      rw [e] at h1 h2
      cases h1
      cases h2
      exact ⟨accV, hp, DenL.bare _ _ z⟩
  · rcases List.mem_append.mp q with q | q
    · exact (so.hid a (List.mem_cons_of_mem _ ha)).2 q
    · exact hpt (by rw [← List.mem_singleton.mp q]; exact ha)
theorem Ext.more {r1 : List Addr} {H1 : Hp} (e : Ext r1 H1 r H) (hp : H1 p = none) : Ext r1 H1 (r ++ [p]) H := by
  obtain ⟨nw, h1, h2⟩ := e.pre
  refine ⟨⟨nw ++ [p], by rw [h1, List.append_assoc], fun q hq => ?_⟩, e.keep, e.tups, e.frzs, e.owns, e.there⟩
  rcases List.mem_append.mp hq with z | z
  · exact h2 q z
  · rw [List.mem_singleton.mp z]; exact hp
end

theorem keepC_bind {A B : Type} {n : Nat} {ds : List D} {S : Sto} {m : Out A} {k : A → Sto → Out B} : (keepC n ds S m).bind k = keepC n ds S (m.bind k) := by
  unfold keepC
  split <;> rfl
noncomputable def compGoC (n : Nat) (ds0 : List D) (g : DG) (env : Ev) (tt : DB) (te : DE) : List D → List D → Sto → Out (List D)
  | [], acc, S => keepC n ds0 S (.ok acc S)
  | d :: ds, acc, S => keepC n ds0 S (match g env d with
    | none => .bad
    | some env' => (noexc (tt env' S)).bind fun k S1 => if k = true then (noexc (te env' S1)).bind fun y S2 => if acc.length < sizeLine then compGoC n ds0 g env tt te ds (acc ++ [y]) S2 else .bad
      else compGoC n ds0 g env tt te ds acc S1)
/-- a comprehension over a list that may be changed, and is not -/
noncomputable def dCompC (fe : DE) (g : DG) (vs : List Nat) (tt : DB) (te : DE) : DE := fun env S => (fe env S).bind fun d S1 => match d, lstOf S1 d with
  | .ref n, some ds => (compGoC n ds g (wipeE env vs) tt te ds [] S1).bind fun acc S2 => .ok (.lst acc) S2
  | _, _ => .bad
section
variable {X : Cx} {W : WX} {tg iter elt : Expr} {fe : DE} {g : DG} {tt : DB} {te : DE} {scope : Scope} {own : List (Str × Nat)} {go : List Nat} {ifs : List Expr} {pos : Pos} {σ : St} {H : Hp} {Q : VK}
def CInvC (X : Cx) (W : WX) (n : Nat) (a : Addr) (ds0 : List D) (g : DG) (vs : List Nat) (tt : DB) (te : DE) (σ : St) (Q : VK) (env : Ev) (t r1 : List Addr) (H1 : Hp) (p : Addr) (ds : List D) (H2 : Hp) : Prop :=
  ∃ r2 S2 acc accV, r2[n]? = some a ∧ H2 p = some (.lst accV) ∧ DenL X.K H2 r2 (p :: t) accV acc ∧ Rel X.K X.mg H2 r2 (p :: t) S2 (wipeE env vs) (wipe σ vs) ∧ Ext r1 H1 r2 H2 ∧
      Good X.K X.mg t (EW W σ) r1 H1 ((compGoC n ds0 g (wipeE env vs) tt te ds acc S2).bind fun acc S2 => .ok (.lst acc) S2) fun d _ r' H' => ∀ v, Den X.K H' r' t v d → Q v H'
theorem tLcC_of {vs : List Nat} (hgo : ∀ i ∈ go, i ∈ vs) (q : tE X W (dCompC fe g vs tt te) σ H Q) : tLc (iList X.K (tE X W fe)) (tG X.K X.mg go g) (tB' X W0 tt) (tE X W0 te) vs σ H Q := by
  obtain ⟨r, t, S, env, rel, g0⟩ := q
  refine ⟨r, t, S, env, rel, g0.bind.mono fun d S1 r1 H1 ex so g1 v dv => ?_⟩
  have rel1 := rel.ext ex so
  split at g1
  case h_2 => exact (show False from g1).elim
  rename_i n ds hds
  obtain ⟨a, xs, ev, hn, ha, z⟩ := ref_lst so dv hds
  subst ev
  refine ⟨a, rfl, ⟨xs, .inl (.inl ha)⟩, fun p hp => ?_⟩
  have nn := notinNew so hp
  refine ⟨fun i m H2 => m = ds.length - i ∧ i ≤ ds.length ∧ CInvC X W n a ds g vs tt te σ Q env t r1 H1 p (ds.drop i) H2,
    ⟨ds.length, rfl, Nat.zero_le _, r1, S1, [], [], hn, upd_same, .nil, (rel1.hide hp).wipes vs, Ext.new hp, g1⟩, ?_⟩
  rintro i m H2 ⟨rfl, hi, r2, S2, acc, accV, hn2, hD2, dacc, rel2, ex2, g2⟩
  have nD : p ∉ r2 := (rel2.so.hid p List.mem_cons_self).2
  by_cases hlt : i < ds.length
  · rw [List.drop_eq_getElem_cons hlt] at g2
    unfold compGoC at g2
    rw [keepC_bind] at g2
    obtain ⟨hS2, g2⟩ := g2.keepC
    obtain ⟨b, ys, eb, hb2, hys, z2⟩ := ref_lst rel2.so (.ref hn2) (lst_ref hS2)
    cases eb
    obtain ⟨u, hu, du⟩ := z2.get (List.getElem?_eq_getElem hlt)
    cases hE : g (wipeE env vs) ds[i] with
    | none => rw [hE] at g2; exact (show False from g2).elim
    | some env' =>
      rw [hE] at g2
      dsimp only at g2
      rw [Out.bind_assoc] at g2
      refine .inr ⟨⟨ys, u, .inl (.inl hys), hu⟩, fun H3 => CInvC X W n a ds g vs tt te σ Q env t r1 H1 p (ds.drop (i + 1)) H3, fun H' h => ⟨ds.length - (i + 1), by omega, rfl, hlt, h⟩, fun x H' y => ?_⟩
      obtain ⟨eH, hx⟩ := y
      subst eH
      have ex1 := Option.some.inj ((hx ys (.inl (.inl hys))).symm.trans hu)
      subst ex1
      refine ⟨r2, p :: t, S2, wipeE env vs, ds[i], rel2, du, env', hE, fun σ2 relS off => ⟨wipe_back off hgo, ?_⟩⟩
      refine ⟨r2, p :: t, S2, env', relS, (Good.split g2).mono fun b S3 r3 H3 ex3 so3 g3 => ?_⟩
      have hD3 : H3 p = some (.lst accV) := ex3.keep p _ hD2 nD
      have rel3 := rel2.ext ex3 so3
      have nD3 : p ∉ r3 := (so3.hid p List.mem_cons_self).2
      cases b with
      | false => exact iteF ⟨r3, S3, acc, accV, ex3.get hn2, hD3, DenL.ext ex3 _ _ dacc, rel3, ex2.trans ex3, g3⟩
      | true =>
        refine iteT ?_
        have g3' := g3
        rw [if_pos rfl, Out.bind_assoc] at g3'
        refine ⟨r3, p :: t, S3, env', relS.ext ex3 so3, (Good.split g3').mono fun y S4 r4 H4 ex4 so4 g4 yv dyv => ?_⟩
        have hD4 : H4 p = some (.lst accV) := ex4.keep p _ hD3 nD3
        have hz : acc.length < sizeLine ∧ Good X.K X.mg t (EW W σ) r1 H1 ((compGoC n ds g (wipeE env vs) tt te (ds.drop (i + 1)) (acc ++ [y]) S4).bind fun acc S2 => .ok (.lst acc) S2) (fun d _ r' H' => ∀ v, Den X.K H' r' t v d → Q v H') := by
          by_cases hz : acc.length < sizeLine
          · rw [if_pos hz] at g4; exact ⟨hz, g4⟩
          · rw [if_neg hz] at g4; exact (show False from g4).elim
        have exB := ex3.trans ex4
        have hT : ∀ ys, H4 p ≠ some (.tup ys) := fun ys e => by rw [hD4] at e; cases e
        have hF : ∀ ob u, H4 p ≠ some (.frz ob u) := fun ob u e => by rw [hD4] at e; cases e
        have mD : p ∈ p :: t := List.mem_cons_self
        exact ⟨accV, hD4, by rw [dacc.length]; exact hz.1, r4, S4, acc ++ [y], accV ++ [yv], exB.get hn2, upd_same, DenL.over mD hT hF _ _ ((DenL.ext exB _ _ dacc).append (.cons dyv .nil)), (rel3.ext ex4 so4).over mD hD4, (ex2.trans exB).overNew hp, hz.2⟩
  · have e : i = ds.length := by omega
    subst e
    rw [List.drop_length] at g2
    unfold compGoC at g2
    rw [keepC_bind] at g2
    obtain ⟨hS2, g2⟩ := g2.keepC
    obtain ⟨b, ys, eb, hb2, hys, z2⟩ := ref_lst rel2.so (.ref hn2) (lst_ref hS2)
    cases eb
    have sub : ∀ a ∈ t, a ∈ p :: t := fun a ha => List.mem_cons_of_mem _ ha
    exact .inl ⟨⟨ys, .inl (.inl hys), by rw [z2.length]; exact Nat.le_refl _⟩, g2 H2 r2 ex2 (rel2.so.less sub) _ (.lst hD2 nD nn.2 (DenL.less sub _ _ dacc))⟩
theorem de_compC (hc : X.calm = true) (hN : X.N.Nodup) (hi : PE X iter (tE X W fe)) (ok : BlkOk X.N X.env.scope scope own) (hgo : ∀ i ∈ go, i ∈ own.map (·.2))
    (hg : ∀ (s : Shared) (H : Hp) (C : Addr) (cl : List (Str × Addr)) (fp : List Addr), PG (X.blk s H scope (compEnvC scope cl C X.env) fp) tg (tG X.K X.mg go g)) (ht : ∀ (s : Shared) (H : Hp) (C : Addr) (cl : List (Str × Addr)) (fp : List Addr), PTs (X.blk s H scope (compEnvC scope cl C X.env) fp) ifs (tB' X W0 tt))
    (he : ∀ (s : Shared) (H : Hp) (C : Addr) (cl : List (Str × Addr)) (fp : List Addr), PE (X.blk s H scope (compEnvC scope cl C X.env) fp) elt (tE X W0 te)) (hs : ∀ x, foldedSetIterable iter X.env x = pure x := by intro _; rfl) :
    PE X (.ListComp elt [⟨tg, iter, ifs, 0⟩] scope pos) (tE X W (dCompC fe g (own.map (·.2)) tt te)) :=
  PE.imp (pe_lc hc hN (pi_list hi) ok hg ht he hs) fun _ _ _ q => tLcC_of hgo q
end
/-- .. item by item -/
theorem compGoC_pure {n : Nat} {ds0 : List D} {g : DG} {env : Ev} {te : DE} {P : List D → Sto → Prop} (f : D → D) {S : Sto} (hS : S[n]? = some (.lst ds0)) : ∀ {ds acc : List D} (hl : acc.length + ds.length ≤ sizeLine)
    (hs : ∀ d ∈ ds, ∃ env', g env d = some env' ∧ Wp (te env' S) fun y S' => S' = S ∧ y = f d) (hf : P (acc ++ ds.map f) S), Wp (compGoC n ds0 g env bYes te ds acc S) P
  | [], acc, hl, hs, hf => by
    unfold compGoC keepC
    rw [if_pos hS]
    rw [List.map_nil, List.append_nil] at hf
    exact Wp.of rfl hf
  | d :: ds, acc, hl, hs, hf => by
    rw [List.length_cons] at hl
    obtain ⟨env', e1, w⟩ := hs d List.mem_cons_self
    unfold compGoC keepC
    rw [if_pos hS, e1]
    dsimp only
    rw [wp_bind, wp_noexc]
    refine Wp.of rfl ?_
    rw [if_pos rfl, wp_bind, wp_noexc]
    refine w.mono fun y S1 q => ?_
    obtain ⟨q1, q2⟩ := q
    subst q1 q2
    rw [if_pos (by omega)]
    refine compGoC_pure f hS (by rw [List.length_append]; show acc.length + 1 + ds.length ≤ _; omega) (fun x hx => hs x (List.mem_cons_of_mem _ hx)) ?_
    rw [List.append_assoc]
    exact hf
def kCompC (g : DG) (vs : List Nat) (te : DE) (env : Ev) (P : D → Sto → Prop) (d : D) (S : Sto) : Prop := ∃ n ds, d = .ref n ∧ S[n]? = some (.lst ds) ∧ Wp (compGoC n ds g (wipeE env vs) bYes te ds [] S) fun acc S2 => P (.lst acc) S2
theorem w_CompC {fe : DE} {g : DG} {vs : List Nat} {te : DE} {env : Ev} {S : Sto} {P : D → Sto → Prop} (h : Wp (fe env S) (kCompC g vs te env P)) : Wp (dCompC fe g vs bYes te env S) P := by
  unfold dCompC
  rw [wp_bind]
  refine h.mono fun d S1 q => ?_
  obtain ⟨n, ds, e, h1, h2⟩ := q
  subst e
  rw [lst_ref h1]
  dsimp only
  rw [wp_bind]
  exact h2.mono fun acc S2 q => Wp.of rfl q
/-- a comprehension whose list is changed afterwards -/
def dCompN (it : DI) (g : DG) (vs : List Nat) (tt : DB) (te : DE) : DE := fun env S => (it env S).bind fun ds S1 => (compGo g (wipeE env vs) tt te ds [] S1).bind fun acc S2 => .ok (.ref S2.length) (S2 ++ [.lst acc])
section
variable {X : Cx} {W : WX} {tg iter elt : Expr} {it : DI} {g : DG} {tt : DB} {te : DE} {scope : Scope} {own : List (Str × Nat)} {go : List Nat} {ifs : List Expr} {pos : Pos} {σ : St} {H : Hp} {Q : VK}
/-- between two turns of a comprehension whose new list stands at p -/
def CInvN (X : Cx) (W : WX) (g : DG) (vs : List Nat) (tt : DB) (te : DE) (σ : St) (Q : VK) (env : Ev) (t r1 : List Addr) (H1 : Hp) (p : Addr) (tok : List (V × D)) (ds : List D) (H2 : Hp) : Prop :=
  ∃ r2 S2 acc accV, H2 p = some (.lst accV) ∧ DenL X.K H2 r2 (p :: t) accV acc ∧ Rel X.K X.mg H2 r2 (p :: t) S2 (wipeE env vs) (wipe σ vs) ∧ Ext r1 H1 r2 H2 ∧
      (∀ q ∈ tok, Den X.K H2 r2 (p :: t) q.1 q.2) ∧ Good X.K X.mg t (EW W σ) r1 H1 ((compGo g (wipeE env vs) tt te ds acc S2).bind fun acc S2 => .ok (.ref S2.length) (S2 ++ [.lst acc])) fun d _ r' H' => ∀ v, Den X.K H' r' t v d → Q v H'
theorem tLcN_of {vs : List Nat} (hgo : ∀ i ∈ go, i ∈ vs) (q : tE X W (dCompN it g vs tt te) σ H Q) : tLc (tI X W it) (tG X.K X.mg go g) (tB' X W0 tt) (tE X W0 te) vs σ H Q := by
  obtain ⟨r, t, S, env, rel, g0⟩ := q
  refine ⟨r, t, S, env, rel, g0.bind.mono fun ds S1 r1 H1 ex so g1 J tok walk htok p hp => ?_⟩
  have rel1 := rel.ext ex so
  have nn := notinNew so hp
  refine ⟨fun i m H2 => m = ds.length - i ∧ i ≤ ds.length ∧ CInvN X W g vs tt te σ Q env t r1 H1 p tok (ds.drop i) H2,
    ⟨ds.length, rfl, Nat.zero_le _, r1, S1, [], [], upd_same, .nil, (rel1.hide hp).wipes vs, Ext.new hp, fun q hq => Den.hide hp _ _ (htok q hq), g1⟩, ?_⟩
  rintro i m H2 ⟨rfl, hi, r2, S2, acc, accV, hD2, dacc, rel2, ex2, htok2, g2⟩
  have wk := walk i r2 (p :: t) H2 S2 rel2.so htok2
  have nD : p ∉ r2 := (rel2.so.hid p List.mem_cons_self).2
  by_cases hlt : i < ds.length
  · obtain ⟨hgo1, hyl⟩ := wk.2 ds[i] (List.getElem?_eq_getElem hlt)
    rw [List.drop_eq_getElem_cons hlt] at g2
    unfold compGo at g2
    cases hE : g (wipeE env vs) ds[i] with
    | none => rw [hE] at g2; exact (show False from g2).elim
    | some env' =>
      rw [hE] at g2
      dsimp only at g2
      rw [Out.bind_assoc] at g2
      refine .inr ⟨hgo1, fun H3 => CInvN X W g vs tt te σ Q env t r1 H1 p tok (ds.drop (i + 1)) H3, fun H' h => ⟨ds.length - (i + 1), by omega, rfl, hlt, h⟩, fun x H' y => ?_⟩
      obtain ⟨exy, soy, dx⟩ := hyl x H' y
      have rely := rel2.ext exy soy
      refine ⟨r2, p :: t, S2, wipeE env vs, ds[i], rely, dx, env', hE, fun σ2 relS off => ⟨wipe_back off hgo, ?_⟩⟩
      refine ⟨r2, p :: t, S2, env', relS, (Good.split g2).mono fun b S3 r3 H3 ex3 so3 g3 => ?_⟩
      have exA := exy.trans ex3
      have hD3 : H3 p = some (.lst accV) := exA.keep p _ hD2 nD
      have rel3 := rely.ext ex3 so3
      have nD3 : p ∉ r3 := (so3.hid p List.mem_cons_self).2
      cases b with
      | false => exact iteF ⟨r3, S3, acc, accV, hD3, DenL.ext exA _ _ dacc, rel3, ex2.trans exA, fun q hq => Den.ext exA _ _ (htok2 q hq), g3⟩
      | true =>
        refine iteT ?_
        have g3' := g3
        rw [if_pos rfl, Out.bind_assoc] at g3'
        refine ⟨r3, p :: t, S3, env', relS.ext ex3 so3, (Good.split g3').mono fun y S4 r4 H4 ex4 so4 g4 yv dyv => ?_⟩
        have hD4 : H4 p = some (.lst accV) := ex4.keep p _ hD3 nD3
        have hz : acc.length < sizeLine ∧ Good X.K X.mg t (EW W σ) r1 H1 ((compGo g (wipeE env vs) tt te (ds.drop (i + 1)) (acc ++ [y]) S4).bind fun acc S2 => .ok (.ref S2.length) (S2 ++ [.lst acc])) (fun d _ r' H' => ∀ v, Den X.K H' r' t v d → Q v H') := by
          by_cases hz : acc.length < sizeLine
          · rw [if_pos hz] at g4; exact ⟨hz, g4⟩
          · rw [if_neg hz] at g4; exact (show False from g4).elim
        have exB := exA.trans ex4
        have hT : ∀ ys, H4 p ≠ some (.tup ys) := fun ys e => by rw [hD4] at e; cases e
        have hF : ∀ ob u, H4 p ≠ some (.frz ob u) := fun ob u e => by rw [hD4] at e; cases e
        have mD : p ∈ p :: t := List.mem_cons_self
        exact ⟨accV, hD4, by rw [dacc.length]; exact hz.1, r4, S4, acc ++ [y], accV ++ [yv], upd_same, DenL.over mD hT hF _ _ ((DenL.ext exB _ _ dacc).append (.cons dyv .nil)), (rel3.ext ex4 so4).over mD hD4, (ex2.trans exB).overNew hp, fun q hq => Den.over mD hT hF _ _ (Den.ext exB _ _ (htok2 q hq)), hz.2⟩
  · have e : i = ds.length := by omega
    subst e
    rw [List.drop_length] at g2
    refine .inl ⟨wk.1 rfl, ?_⟩
    exact g2 H2 (r2 ++ [p]) (ex2.more hp) (SOk.bare nn.2 rel2.so hD2 dacc) _ (.ref (by rw [← rel2.so.len, List.getElem?_append_right (Nat.le_refl _), Nat.sub_self]; rfl))
theorem de_compN (hc : X.calm = true) (hN : X.N.Nodup) (hi : PI X tg iter (tI X W it)) (ok : BlkOk X.N X.env.scope scope own) (hgo : ∀ i ∈ go, i ∈ own.map (·.2))
    (hg : ∀ (s : Shared) (H : Hp) (C : Addr) (cl : List (Str × Addr)) (fp : List Addr), PG (X.blk s H scope (compEnvC scope cl C X.env) fp) tg (tG X.K X.mg go g)) (ht : ∀ (s : Shared) (H : Hp) (C : Addr) (cl : List (Str × Addr)) (fp : List Addr), PTs (X.blk s H scope (compEnvC scope cl C X.env) fp) ifs (tB' X W0 tt))
    (he : ∀ (s : Shared) (H : Hp) (C : Addr) (cl : List (Str × Addr)) (fp : List Addr), PE (X.blk s H scope (compEnvC scope cl C X.env) fp) elt (tE X W0 te)) (hs : ∀ x, foldedSetIterable iter X.env x = pure x := by intro _; rfl) :
    PE X (.ListComp elt [⟨tg, iter, ifs, 0⟩] scope pos) (tE X W (dCompN it g (own.map (·.2)) tt te)) :=
  PE.imp (pe_lc hc hN hi ok hg ht he hs) fun _ _ _ q => tLcN_of hgo q
end
def kCompN (g : DG) (vs : List Nat) (tt : DB) (te : DE) (env : Ev) (P : D → Sto → Prop) (ds : List D) (S : Sto) : Prop := Wp (compGo g (wipeE env vs) tt te ds [] S) fun acc S2 => P (.ref S2.length) (S2 ++ [.lst acc])
theorem w_CompN {it : DI} {g : DG} {vs : List Nat} {tt : DB} {te : DE} {env : Ev} {S : Sto} {P : D → Sto → Prop} : Wp (dCompN it g vs tt te env S) P = Wp (it env S) (kCompN g vs tt te env P) := by
  unfold dCompN
  simp only [wp_bind, wp_ok]
  rfl
theorem k_CompN {g : DG} {vs : List Nat} {tt : DB} {te : DE} {env : Ev} {S : Sto} {P : D → Sto → Prop} {ds : List D} : kCompN g vs tt te env P ds S = Wp (compGo g (wipeE env vs) tt te ds [] S) fun acc S2 => P (.ref S2.length) (S2 ++ [.lst acc]) := rfl
theorem top_ref {S : Sto} {n : Nat} {ds : List D} (h : S[n]? = some (.lst ds)) : topD S (.ref n) = .lst ds := by
  unfold topD
  rw [lst_ref h]
theorem eqD_ref {S : Sto} {n : Nat} {ds : List D} {y : D} {neg : Bool} (h : S[n]? = some (.lst ds)) : oEqD neg S (.ref n) y = oEqD neg S (.lst ds) y := by
  unfold oEqD
  rw [top_ref h]
  rfl
open Classical in
theorem ne_ref {S : Sto} {n : Nat} {ds es : List D} (h : S[n]? = some (.lst ds)) (hx : plD 64 (.lst ds) = true) (hy : plD 64 (.lst es) = true) : oNe S (.ref n) (.lst es) = some (.bl (!decide (D.lst ds = .lst es))) :=
  (orO_none rfl).trans ((eqD_ref h).trans ((eqD_pl true hx hy).trans (by rw [Bool.true_xor])))
open Classical in
theorem eq_ref {S : Sto} {n : Nat} {ds es : List D} (h : S[n]? = some (.lst ds)) (hx : plD 64 (.lst ds) = true) (hy : plD 64 (.lst es) = true) : oEq S (.ref n) (.lst es) = some (.bl (decide (D.lst ds = .lst es))) :=
  (orO_none rfl).trans ((eqD_ref h).trans ((eqD_pl false hx hy).trans (by rw [Bool.false_xor])))
end DL
end L2

set_option Elab.async false
set_option linter.all false
set_option maxRecDepth 100000
set_option maxHeartbeats 1000000
/-! xs.extend(ys), d.pop(k), x in a written tuple, {'a': x, ..}. -/
namespace L2
namespace DL
open PySem PySem.Spec PyProof.Rows

/-! ### extend -/
def dExtend (fo fa : DE) : DE := fun env S => (fo env S).bind fun o S1 => if (lstOf S1 o).isSome = true then (fa env S1).bind fun y S2 => match o, lstOf S2 o, lstOf S2 y with
  | .ref n, some ds, some es => if ds.length + es.length ≤ sizeLine then .ok .non (S2.set n (.lst (ds ++ es))) else .bad
  | _, _, _ => .bad
  else .bad
section
variable {X : Cx} {W : WX} {e : Expr} {fo fa fi : DE} {K : PySem.W.Frag} {mg : Str → Option Value}
theorem de_extend (hb : PE X e (tBM X.K "list" rExtend (tE X W fo) (tCons (tE X W fa) tNil))) : PE X e (tE X W (dExtend fo fa)) := by
  refine PE.imp hb fun σ H Q q => ?_
  obtain ⟨r, t, S, env, rel, g⟩ := q
  refine ⟨r, t, S, env, rel, g.bind.mono fun od S1 r1 H1 ex so g1 v dv => ?_⟩
  have rel1 := rel.ext ex so
  obtain ⟨hty, g2⟩ := g1.ite
  obtain ⟨ds, hds⟩ := Option.isSome_iff_exists.mp hty
  obtain ⟨a, xs, ev, ha1, _⟩ := lst_ok so dv hds
  refine ⟨by rw [ev]; exact Or.inl ⟨rfl, _, SqL.of ha1⟩, r1, t, S1, env, rel1, g2.bind.mono fun y S2 r2 H2 ex2 so2 g3 yv dy => ?_⟩
  split at g3
  · rename_i n zs es hz he
    obtain ⟨hl, g4⟩ := g3.ite
    obtain ⟨b, ys, ev2, hn, hb, z⟩ := ref_lst so2 (Den.ext ex2 _ _ dv) he
    obtain ⟨c, ws, ec, hc, z2⟩ := lst_ok so2 dy hz
    refine ⟨b, c, ys, ws, ev2, by rw [ec], hb, hc, by rw [z.length, z2.length]; exact hl, ?_⟩
    obtain ⟨ex3, so3⟩ := put_lst so2 hn hb (z.append z2)
    exact g4 _ r2 ex3 so3 _ .non
  · exact (show False from g3).elim
end
section
variable {env : Ev} {S : Sto} {P : D → Sto → Prop} {fo fa fi fv : DE}
def kExt (fa : DE) (env : Ev) (P : D → Sto → Prop) (o : D) (S : Sto) : Prop := ∃ n, o = .ref n ∧ (∃ ds, S[n]? = some (.lst ds)) ∧ Wp (fa env S) fun y S2 => ∃ ds es, S2[n]? = some (.lst ds) ∧ lstOf S2 y = some es ∧ ds.length + es.length ≤ sizeLine ∧ P .non (S2.set n (.lst (ds ++ es)))
theorem w_Ext (h : Wp (fo env S) (kExt fa env P)) : Wp (dExtend fo fa env S) P := by
  unfold dExtend
  rw [wp_bind]
  refine h.mono fun o S1 q => ?_
  obtain ⟨n, eo, ⟨ds, hd⟩, h2⟩ := q
  subst eo
  rw [lst_ref hd, if_pos (show (some ds).isSome = true from rfl), wp_bind]
  refine Wp.mono h2 fun y S2 q => ?_
  obtain ⟨ds, es, h1, h3, h4, p⟩ := q
  rw [lst_ref h1, h3]
  dsimp only
  rw [if_pos h4]
  exact Wp.of rfl p
end

/-! ### d.pop(k) -/
def isTab (S : Sto) : D → Bool
  | .ref n => match S[n]? with
    | some (.dK _) => true
    | _ => false
  | _ => false
def dropD (kvs : List (Key × D)) (k : Key) : List (Key × D) := kvs.filter fun kv => decide (kv.1 ≠ k)
def dPopK (fo fi : DE) : DE := fun env S => (fo env S).bind fun o S1 => if isTab S1 o = true then (fi env S1).bind fun i S2 => match o with
  | .ref n => match S2[n]?, keyD i with
    | some (.dK kvs), some k => match valD kvs k with
      | some d => .ok d (S2.set n (.dK (dropD kvs k)))
      | none => .bad
    | _, _ => .bad
  | _ => .bad
  else .bad
theorem DenP.drop {K : PySem.W.Frag} {H : Hp} {r t : List Addr} (k : Key) : ∀ {ps : List (Key × V)} {ds : List (Key × D)}, DenP K H r t ps ds → DenP K H r t (dropK ps k) (dropD ds k)
  | [], ds, h => by rw [h.nilD]; exact .nil0
  | p :: ps, ds, h => by
    obtain ⟨d, es, e, hd, hp⟩ := h.split
    subst e
    have ih := DenP.drop k hp
    unfold dropK dropD at ih ⊢
    rw [List.filter_cons, List.filter_cons]
    by_cases c : p.1 = k
    · rw [if_neg (by simpa using c), if_neg (by simpa using c)]
      exact ih
    · rw [if_pos (by simpa using c), if_pos (by simpa using c)]
      exact .cons0 hd ih
section
variable {X : Cx} {W : WX} {o e : Expr} {fo fi : DE} {apos cpos : Pos}
theorem de_popK (ho : PE X o (tE X W fo)) (he : PE X e (tE X W fi)) (m : M1 X o "pop" apos e cpos) : PE X (.Call (.Attribute o "pop" apos) [e] [] cpos) (tE X W (dPopK fo fi)) := by
  refine PE.imp (pe_dpop1 ho he m) fun σ H Q q => ?_
  obtain ⟨r, t, S, env, rel, g⟩ := q
  refine ⟨r, t, S, env, rel, g.bind.mono fun od S1 r1 H1 ex so g1 v dv => ?_⟩
  have rel1 := rel.ext ex so
  obtain ⟨hty, g2⟩ := g1.ite
  cases dv with
  | @ref a n hn =>
    have hty' : ∃ kvs, S1[n]? = some (.dK kvs) := by
      unfold isTab at hty
      dsimp only at hty
      split at hty
      · rename_i kvs h; exact ⟨kvs, h⟩
      · cases hty
    obtain ⟨kvs0, hS1⟩ := hty'
    obtain ⟨ps0, hp0, _⟩ := so.ok n a _ hn hS1
    refine ⟨a, rfl, .inl ⟨ps0, .inl hp0⟩, r1, t, S1, env, rel1, g2.bind.mono fun i S2 r2 H2 ex2 so2 g3 iv di => ?_⟩
    dsimp only at g3
    split at g3
    · rename_i kvs k hS hk
      split at g3
      · rename_i d hd
        have hn2 := ex2.get hn
        obtain ⟨ps, hp, z⟩ := so2.ok n a _ hn2 hS
        obtain ⟨w, hw, dw⟩ := (z.val k).1 d hd
        refine ⟨ps, k, w, hp, keyD_ok di hk, hw, ?_⟩
        have ex3 : Ext r2 H2 r2 (upd H2 a (.dK (dropK ps k))) := Ext.write hp trivial (List.mem_of_getElem? hn2)
        have so3 := so2.write (o := .dK (dropK ps k)) hn2 hp trivial (c := .dK (dropD kvs k)) ⟨_, upd_same, DenP.ext ex3 (z.drop k)⟩
        exact g3 _ r2 ex3 so3 w (Den.ext ex3 _ _ dw)
      · exact (show False from g3).elim
    · exact (show False from g3).elim
  | _ => exact absurd hty Bool.false_ne_true
end
section
variable {env : Ev} {S : Sto} {P : D → Sto → Prop} {fo fi : DE}
def kPop (fi : DE) (env : Ev) (P : D → Sto → Prop) (o : D) (S : Sto) : Prop := ∃ n, o = .ref n ∧ (∃ kvs, S[n]? = some (.dK kvs)) ∧ Wp (fi env S) fun i S2 => ∃ kvs k d, S2[n]? = some (.dK kvs) ∧ keyD i = some k ∧ valD kvs k = some d ∧ P d (S2.set n (.dK (dropD kvs k)))
theorem w_PopK (h : Wp (fo env S) (kPop fi env P)) : Wp (dPopK fo fi env S) P := by
  unfold dPopK
  rw [wp_bind]
  refine h.mono fun o S1 q => ?_
  obtain ⟨n, eo, ⟨kvs, hd⟩, h2⟩ := q
  subst eo
  rw [if_pos (by unfold isTab; dsimp only; rw [hd]), wp_bind]
  refine Wp.mono h2 fun i S2 q => ?_
  obtain ⟨kvs, k, d, h1, h3, h4, p⟩ := q
  dsimp only
  rw [h1, h3]
  dsimp only
  rw [h4]
  exact Wp.of rfl p
end

/-! ### x in a written tuple of texts -/
structure GlobT (K : PySem.W.Frag) (mg : Str → Option Value) (x : Str) (xs : List Str) : Prop where
  ex : ∃ a, mg x = some (.ref a) ∧ ∀ H, SqT K H a (xs.map V.str)
def dInG (neg : Bool) (xs : List Str) (fe : DE) : DE := fun env S => (fe env S).bind fun d S1 => match d with
  | .str x => .ok (.bl (neg ^^ decide (x ∈ xs))) S1
  | _ => .bad
theorem inV_strs (x : Str) : ∀ ns : List Str, inV (.str x) (ns.map V.str) = decide (x ∈ ns)
  | [] => rfl
  | n :: ns => by
    show (eqV (.str n) (.str x) || inV (.str x) (ns.map V.str)) = _
    rw [inV_strs x ns]
    show (n == x || decide (x ∈ ns)) = _
    rw [Bool.eq_iff_iff, Bool.or_eq_true, decide_eq_true_eq, decide_eq_true_eq, beq_iff_eq, List.mem_cons]
    exact or_congr ⟨fun h => h.symm, fun h => h.symm⟩ Iff.rfl
theorem flat_strs (ns : List Str) : (ns.map V.str).all flatV = true := by
  rw [List.all_map]
  exact List.all_eq_true.mpr fun _ _ => rfl
section
variable {X : Cx} {W : WX} {a : Expr} {fe : DE} {p pos : Pos} {x : Str} {xs : List Str}
theorem inG_read {neg : Bool} {c : Addr} (hs : ∀ H, SqT X.K H c (xs.map V.str)) {σ : St} {H : Hp} {Q : VK} (q : tE X W (dInG neg xs fe) σ H Q) : tOp (rIn X.K neg) (tE X W fe) (tC (.ref c)) σ H Q := by
  obtain ⟨r, t, S, env, rel, g⟩ := q
  refine ⟨r, t, S, env, rel, g.bind.mono fun d S1 r1 H1 ex so g1 v dv => ?_⟩
  split at g1
  · cases dv
    refine ⟨c, _, rfl, .inr (hs H1), rfl, flat_strs xs, ?_⟩
    rw [inV_strs]
    have := Good.here g1 so _ (.bl _)
    cases neg <;> simpa using this
  · exact (show False from g1).elim
theorem de_inG (gt : GlobT X.K X.mg x xs) (ha : PE X a (tE X W fe)) (hg : Gl X x) (hm : behindInMarks .In (.Name x p) = false) (hdb : (x == ("__debug__" : Str)) = false := by decide) : PE X (.Compare a [.In] [.Name x p] pos) (tE X W (dInG false xs fe)) := by
  obtain ⟨c, h1, h2⟩ := gt.ex
  exact PE.imp (pe_cmpR op_in_seq ha (pe_glob (v := .ref c) hg h1 rfl hdb) hm) fun σ H Q q => inG_read h2 q
theorem dt_inG (gt : GlobT X.K X.mg x xs) (ha : PE X a (tE X W fe)) (hg : Gl X x) (hm : behindInMarks .In (.Name x p) = false) (hdb : (x == ("__debug__" : Str)) = false := by decide) : PT X (.Compare a [.In] [.Name x p] pos) (tB' X W (dTst (dInG false xs fe))) := by
  obtain ⟨c, h1, h2⟩ := gt.ex
  exact PT.imp (pt_cmpR op_in_seq ha (pe_glob (v := .ref c) hg h1 rfl hdb) hm) fun σ H Q q => tB_test (te := tOp (rIn X.K false) (tE X W fe) (tC (.ref c))) (fun σ H Q q => inG_read h2 q) q
theorem de_notInG (gt : GlobT X.K X.mg x xs) (ha : PE X a (tE X W fe)) (hg : Gl X x) (hm : behindInMarks .NotIn (.Name x p) = false) (hdb : (x == ("__debug__" : Str)) = false := by decide) : PE X (.Compare a [.NotIn] [.Name x p] pos) (tE X W (dInG true xs fe)) := by
  obtain ⟨c, h1, h2⟩ := gt.ex
  exact PE.imp (pe_cmpR op_notIn_seq ha (pe_glob (v := .ref c) hg h1 rfl hdb) hm) fun σ H Q q => inG_read h2 q
theorem dt_notInG (gt : GlobT X.K X.mg x xs) (ha : PE X a (tE X W fe)) (hg : Gl X x) (hm : behindInMarks .NotIn (.Name x p) = false) (hdb : (x == ("__debug__" : Str)) = false := by decide) : PT X (.Compare a [.NotIn] [.Name x p] pos) (tB' X W (dTst (dInG true xs fe))) := by
  obtain ⟨c, h1, h2⟩ := gt.ex
  exact PT.imp (pt_cmpR op_notIn_seq ha (pe_glob (v := .ref c) hg h1 rfl hdb) hm) fun σ H Q q => tB_test (te := tOp (rIn X.K true) (tE X W fe) (tC (.ref c))) (fun σ H Q q => inG_read h2 q) q
end
section
variable {env : Ev} {S : Sto} {P : D → Sto → Prop} {fe : DE} {neg : Bool} {xs : List Str}
def kInG (neg : Bool) (xs : List Str) (P : D → Sto → Prop) (d : D) (S : Sto) : Prop := match d with
  | .str x => P (.bl (neg ^^ decide (x ∈ xs))) S
  | _ => False
theorem w_InG (h : Wp (fe env S) (kInG neg xs P)) : Wp (dInG neg xs fe env S) P := by
  unfold dInG
  rw [wp_bind]
  refine h.mono fun d S1 q => ?_
  cases d with
  | str x => exact Wp.of rfl q
  | _ => exact q.elim
theorem k_InG {x : Str} : kInG neg xs P (.str x) S = P (.bl (neg ^^ decide (x ∈ xs))) S := rfl
end

/-! ### {'a': x, ..} -/
def dDispK (ks : List Key) (fs : DA) : DE := fun env S => (fs env (S ++ [.dK []])).bind fun ys S2 => match S2[S.length]? with
  | some (.dK []) => if ys.length = ks.length ∧ ks.length ≤ 15 ∧ ks.Nodup then .ok (.ref S.length) (S2.set S.length (.dK (ks.zip ys))) else .bad
  | _ => .bad
/-- pairs, the keys written -/
structure PPd (X : Cx) (W : WX) (pos : Pos) (keys : List (Option Expr)) (vals : List Expr) (ks : List Key) (fs : DA) : Prop where
  ex : ∃ trs, PPs X pos keys vals trs ∧ ∀ (r t : List Addr) (S : Sto) (env : Ev) (σ : St) (H : Hp) (Q : List (V × V) → Hp → Prop), Rel X.K X.mg H r t S env σ →
    Good X.K X.mg t (EW W σ) r H (fs env S) (fun ys _ r' H' => ∀ vs, DenL X.K H' r' t vs ys → Q ((ks.map kV).zip vs) H') → tPairs trs σ H Q
section
variable {X : Cx} {W : WX} {pos : Pos} {keys : List (Option Expr)} {vals : List Expr} {ks : List Key} {fs : DA}
theorem ppd_nil : PPd X W pos [] [] [] aNil := ⟨[], pps_nil, fun r t S env σ H Q rel g => Good.here g rel.so [] .nil⟩
theorem ppd_cons {m : Str} {j : Nat} {p : Pos} {v : Expr} {fv : DE} (hv : PE X v (tE X W fv)) (h : PPd X W pos keys vals ks fs) : PPd X W pos (some (.Constant (.str m) j p) :: keys) (v :: vals) (.inr m :: ks) (aCons fv fs) := by
  obtain ⟨trs, h1, h2⟩ := h.ex
  refine ⟨(tC (.str m), tE X W fv) :: trs, pps_cons pe_str hv h1, fun r t S env σ H Q rel g => ?_⟩
  refine ⟨r, t, S, env, rel, g.bind.mono fun d S1 r1 H1 ex so g1 w dw => ?_⟩
  refine h2 r1 t S1 env σ H1 _ (rel.ext ex so) (g1.bind.mono fun ys S2 r2 H2 ex2 so2 g2 vs dvs => ?_)
  exact Good.here g2 so2 (w :: vs) (.cons (Den.ext ex2 _ _ dw) dvs)
theorem mergeK_nodup : ∀ {kvs acc : List (Key × V)}, (acc ++ kvs).map (·.1) |>.Nodup → mergeK acc kvs = acc ++ kvs
  | [], acc, _ => by show acc = acc ++ []; rw [List.append_nil]
  | kv :: kvs, acc, h => by
    show mergeK (putK acc kv.1 kv.2) kvs = _
    have hn : valV acc kv.1 = none := by
      cases e : valV acc kv.1 with
      | none => rfl
      | some v =>
        have h1 : (acc.any fun p => decide (p.1 = kv.1)) = true := by rw [valV_any, e]; rfl
        obtain ⟨p, hp, hk⟩ := List.any_eq_true.mp h1
        have hk := of_decide_eq_true hk
        rw [List.map_append, List.map_cons] at h
        exact absurd hk (List.nodup_append.mp h |>.2.2 p.1 (List.mem_map_of_mem hp) kv.1 List.mem_cons_self)
    rw [putK_new kv.2 hn, mergeK_nodup (by rw [List.append_assoc]; exact h), List.append_assoc]
    rfl
theorem zip_keys : ∀ {ks : List Key} {vs : List V}, vs.length = ks.length → (ks.map kV).zip vs = (ks.zip vs).map fun kv => (kV kv.1, kv.2)
  | [], [], _ => rfl
  | k :: ks, v :: vs, h => by
    rw [List.map_cons, List.zip_cons_cons, List.zip_cons_cons, List.map_cons, zip_keys (by simpa using h)]
theorem denP_zip {K : PySem.W.Frag} {H : Hp} {r t : List Addr} : ∀ {ks : List Key} {vs : List V} {ys : List D}, DenL K H r t vs ys → ys.length = ks.length → DenP K H r t (ks.zip vs) (ks.zip ys)
  | [], vs, ys, _, _ => by
    rw [List.zip_nil_left, List.zip_nil_left]
    exact .nil0
  | k :: ks, vs, ys, z, h => by
    cases z with
    | nil => cases h
    | cons h1 h2 =>
      rw [List.zip_cons_cons, List.zip_cons_cons]
      exact .cons0 h1 (denP_zip h2 (by simpa using h))
theorem de_dispK (h : PPd X W pos keys vals ks fs) (h0 : keys ≠ []) (hall : keys.all (·.isSome) = true := by rfl) (hl : keys.length = vals.length := by rfl) (h15 : keys.length ≤ 15 := by decide) : PE X (.Dict keys vals pos) (tE X W (dDispK ks fs)) := by
  obtain ⟨trs, h1, h2⟩ := h.ex
  refine PE.imp (pe_disp h1 hall hl h0 h15) fun σ H Q q p hp => ?_
  obtain ⟨r, t, S, env, rel, g⟩ := q
  have ex0 : Ext r H (r ++ [p]) (upd H p (.dK [])) := Ext.grow hp
  obtain ⟨so0, d0⟩ := growC (o := .dK []) (c := .dK []) rel.so hp ⟨[], upd_same, rfl, .nil⟩
  have hlen : (r ++ [p])[S.length]? = some p := by rw [← rel.so.len, List.getElem?_append_right (Nat.le_refl _), Nat.sub_self]; rfl
  refine h2 (r ++ [p]) t (S ++ [.dK []]) env σ _ _ (rel.ext ex0 so0) ((g.ext ex0).bind.mono fun ys S2 r2 H2 ex2 so2 g2 vs dvs => ?_)
  split at g2
  · rename_i hS2
    obtain ⟨hc, g3⟩ := g2.ite
    obtain ⟨c1, c2, c3⟩ := hc
    have hn2 : r2[S.length]? = some p := ex2.get hlen
    obtain ⟨ps, hp2, z⟩ := so2.ok _ p _ hn2 hS2
    have eps : ps = [] := List.length_eq_zero_iff.mp z.len
    subst eps
    have hvl : vs.length = ks.length := dvs.length.trans c1
    have hmk : mergeK [] (ks.zip vs) = ks.zip vs := by
      rw [mergeK_nodup]
      · rfl
      · rw [List.nil_append, List.map_fst_zip (by omega)]
        exact c3
    refine ⟨hp2, ks.zip vs, zip_keys hvl, by rw [List.length_zip]; omega, ?_⟩
    rw [hmk]
    have ex3 : Ext r2 H2 r2 (upd H2 p (.dK (ks.zip vs))) := Ext.write hp2 trivial (List.mem_of_getElem? hn2)
    have so3 := so2.write (o := .dK (ks.zip vs)) hn2 hp2 trivial (c := .dK (ks.zip ys)) ⟨_, upd_same, DenP.ext ex3 (denP_zip dvs c1)⟩
    exact g3 _ r2 ex3 so3 _ (.ref hn2)
  · exact (show False from g2).elim
end
section
variable {env : Ev} {S : Sto} {P : D → Sto → Prop} {ks : List Key} {fs : DA}
def kDispK (n : Nat) (ks : List Key) (P : D → Sto → Prop) (ys : List D) (S2 : Sto) : Prop := S2[n]? = some (.dK []) ∧ ys.length = ks.length ∧ ks.length ≤ 15 ∧ ks.Nodup ∧ P (.ref n) (S2.set n (.dK (ks.zip ys)))
theorem w_DispK (h : Wp (fs env (S ++ [.dK []])) (kDispK S.length ks P)) : Wp (dDispK ks fs env S) P := by
  unfold dDispK
  rw [wp_bind]
  refine h.mono fun ys S2 q => ?_
  obtain ⟨h1, h2, h3, h4, p⟩ := q
  rw [h1]
  dsimp only
  rw [if_pos ⟨h2, h3, h4⟩]
  exact Wp.of rfl p
end
section
variable {X : Cx} {E : XK}
theorem ds_setLcN (i : Nat) {y : Str} {py : Pos} {elt tg iter : Expr} {ifs : List Expr} {scope : Scope} {own : List (Str × Nat)} {go : List Nat} {pos spos : Pos} {it : DI} {gg : DG} {tt : DB} {te : DE} (hc : X.calm = true) (hN : X.N.Nodup)
    (hsw : swapsWith (.ListComp elt [⟨tg, iter, ifs, 0⟩] scope pos) (some (.Name y py)) spos.line X.env = pure true) (hi : PI X tg iter (tI X (WC E) it)) (ok : BlkOk X.N X.env.scope scope own) (hgo : ∀ i ∈ go, i ∈ own.map (·.2))
    (hg : ∀ (s : Shared) (H : Hp) (C : Addr) (cl : List (Str × Addr)) (fp : List Addr), PG (X.blk s H scope (compEnvC scope cl C X.env) fp) tg (tG X.K X.mg go gg)) (ht : ∀ (s : Shared) (H : Hp) (C : Addr) (cl : List (Str × Addr)) (fp : List Addr), PTs (X.blk s H scope (compEnvC scope cl C X.env) fp) ifs (tB' X W0 tt))
    (he : ∀ (s : Shared) (H : Hp) (C : Addr) (cl : List (Str × Addr)) (fp : List Addr), PE (X.blk s H scope (compEnvC scope cl C X.env) fp) elt (tE X W0 te)) (hy : X.N[i]? = some y := by rfl) (hyl : X.env.scope.names.lookup y = some .local := by rfl) (hs : ∀ x, foldedSetIterable iter X.env x = pure x := by intro _; rfl) :
    PS X (.Assign [.Name y py] (.ListComp elt [⟨tg, iter, ifs, 0⟩] scope pos) spos) (tS X E (sSet i (dCompN it gg (own.map (·.2)) tt te))) := by
  refine PS.imp (ps_setLc hc hN hy hyl hsw hi ok hg ht he hs) fun D σ H q => ?_
  obtain ⟨r, t, S, env, rel, g0⟩ := q
  exact tLcN_of (W := WC E) hgo ⟨r, t, S, env, rel, g0.bind.mono fun d S1 r1 H1 ex so g1 v dv => Good.here g1 so _ ((rel.ext ex so).set i dv)⟩
end
theorem ex_frz {f : Fn} {ds : List D} {S : Sto} {c : Str} {Q : Sto → Prop} (h : Ex (f ds S) c fun S1 => (∀ j c, j < S.length → S1[j]? = some c → S[j]? = some c ∨ ltC S.length c = true) ∧ Q (S1.take S.length)) : Ex (frzF f ds S) c Q := by
  obtain ⟨S1, e, hc, q⟩ := h.get
  refine ⟨S1.take S.length, ?_, q⟩
  unfold frzF
  rw [e]
  exact if_pos hc
end DL
end L2

set_option Elab.async false
set_option linter.all false
set_option maxRecDepth 100000
set_option maxHeartbeats 1000000
/-! [.. for k in d], list(d), d != {}: tables. -/
namespace L2
namespace DL
open PySem PySem.Spec PyProof.Rows

/-! ### a table is locked, and unlocked -/
section
variable {K : PySem.W.Frag} {mg : Str → Option Value} {H : Hp} {r t : List Addr} {p : Addr} {o : HO}
mutual
theorem Den.off (hT : ∀ xs, H p ≠ some (.tup xs)) (hL : ∀ xs, H p ≠ some (.lst xs)) (hF : ∀ ob xs, H p ≠ some (.frz ob (.lst xs))) : ∀ (d : D) (v : V), Den K H r t v d → Den K (upd H p o) r t v d
  | .non, _, h => by cases h; exact .non
  | .bl b, _, h => by cases h; exact .bl b
  | .int i, _, h => by cases h; exact .int i
  | .str x, _, h => by cases h; exact .str x
  | .ty n, _, h => by cases h; exact .ty n
  | .tup ds, _, h => by
    cases h with
    | tup h z => exact .tup (by rw [upd_ne (fun e => by subst e; exact hT _ h)]; exact h) (DenL.off hT hL hF ds _ z)
  | .lst ds, _, h => by
    cases h with
    | lst h n m z => exact .lst (by rw [upd_ne (fun e => by subst e; exact hL _ h)]; exact h) n m (DenL.off hT hL hF ds _ z)
  | .fz ds, _, h => by
    cases h with
    | fz h z => exact .fz (h.imp (fun ⟨o, q⟩ => ⟨o, by rw [upd_ne (fun e => by subst e; exact hF _ _ q)]; exact q⟩) id) (DenL.off hT hL hF ds _ z)
  | .ref n, _, h => by
    cases h with
    | ref h => exact .ref h
theorem DenL.off (hT : ∀ xs, H p ≠ some (.tup xs)) (hL : ∀ xs, H p ≠ some (.lst xs)) (hF : ∀ ob xs, H p ≠ some (.frz ob (.lst xs))) : ∀ (ds : List D) (vs : List V), DenL K H r t vs ds → DenL K (upd H p o) r t vs ds
  | [], _, h => by cases h; exact .nil
  | d :: ds, _, h => by
    cases h with
    | cons h1 h2 => exact .cons (Den.off hT hL hF d _ h1) (DenL.off hT hL hF ds _ h2)
end
variable {od : Obj} {ps : List (Key × V)}
theorem DenL.unlock (h : H p = some (.frz od (.dK ps))) {ds : List D} {vs : List V} (z : DenL K H r t vs ds) : DenL K (upd H p o) r t vs ds :=
  DenL.off (fun xs e => by rw [h] at e; cases e) (fun xs e => by rw [h] at e; cases e) (fun ob xs e => by rw [h] at e; cases e) _ _ z
theorem Den.unlock (h : H p = some (.frz od (.dK ps))) {d : D} {v : V} (z : Den K H r t v d) : Den K (upd H p o) r t v d :=
  Den.off (fun xs e => by rw [h] at e; cases e) (fun xs e => by rw [h] at e; cases e) (fun ob xs e => by rw [h] at e; cases e) _ _ z
theorem SOk.unlock {S : Sto} {n : Nat} {kvs : List (Key × D)} (so : SOk K mg H r t S) (hn : r[n]? = some p) (hp : H p = some (.frz od (.dK ps))) (hS : S[n]? = some (.fK kvs)) : SOk K mg (upd H p (.dK ps)) r t (S.set n (.dK kvs)) := by
  refine ⟨by rw [List.length_set]; exact so.len, so.nd, fun j a c h1 h2 => ?_, fun a ha => ⟨?_, (so.hid a ha).2⟩⟩
  · by_cases hj : n = j
    · subst hj
      have ea : p = a := Option.some.inj (hn.symm.trans h1)
      subst ea
      rw [List.getElem?_set_self (List.getElem?_eq_some_iff.mp hS).1] at h2
      have e2 := Option.some.inj h2
      subst e2
      obtain ⟨o', xs, h3, h4⟩ := so.ok n p _ hn hS
      rw [hp] at h3
      have h3 := Option.some.inj h3
      injection h3 with _ h3
      injection h3 with h3
      subst h3
      exact ⟨ps, upd_same, h4.1, DenL.unlock hp h4.2⟩
    · rw [List.getElem?_set_ne hj] at h2
      have ok := so.ok j a c h1 h2
      have na : a ≠ p := fun e => hj (nodup_get so.nd hn (by rw [← e]; exact h1))
      cases c with
      | lst ds => obtain ⟨xs, h3, h4⟩ := ok; exact ⟨xs, by rw [upd_ne na]; exact h3, DenL.unlock hp h4⟩
      | dK ds => obtain ⟨xs, h3, h4⟩ := ok; exact ⟨xs, by rw [upd_ne na]; exact h3, h4.1, DenL.unlock hp h4.2⟩
      | dT ds => obtain ⟨xs, h3, h4⟩ := ok; exact ⟨xs, by rw [upd_ne na]; exact h3, h4.1, DenL.unlock hp h4.2⟩
      | ins c fs => obtain ⟨C, dx, qs, h3, h4, h5, h6⟩ := ok; exact ⟨C, dx, qs, by rw [upd_ne na]; exact h3, by rw [upd_ne (fun e => by subst e; rw [hp] at h4; cases h4)]; exact h4, h5, h6.1, DenL.unlock hp h6.2⟩
      | exc c => obtain ⟨C, h3, h4⟩ := ok; exact ⟨C, h3, by rw [upd_ne na]; exact h4⟩
      | fK ds => obtain ⟨o', xs, h3, h4⟩ := ok; exact ⟨o', xs, by rw [upd_ne na]; exact h3, h4.1, DenL.unlock hp h4.2⟩
      | fT ds => obtain ⟨o', xs, h3, h4⟩ := ok; exact ⟨o', xs, by rw [upd_ne na]; exact h3, h4.1, DenL.unlock hp h4.2⟩
  · by_cases e : a = p
    · subst e; rw [upd_same]; exact fun z => nomatch z
    · rw [upd_ne e]; exact (so.hid a ha).1
theorem Ext.unlock {r2 : List Addr} {H2 : Hp} (hH : H p = some (.dK ps)) (hp : p ∈ r) (e : Ext r (upd H p (.frz od (.dK ps))) r2 H2) : Ext r H r2 (upd H2 p (.dK ps)) := by
  obtain ⟨nw, h1, h2⟩ := e.pre
  have ne : ∀ b u, H b = some u → u ≠ .dK ps → b ≠ p := fun b u h q z => by rw [z, hH] at h; cases h; exact q rfl
  refine ⟨⟨nw, h1, fun q hq => ?_⟩, fun b u h hb => ?_, fun b xs h => ?_, fun b ob u h => ?_, fun b x h => ?_, fun b h => ?_⟩
  · have z := h2 q hq
    by_cases c : q = p
    · rw [c, upd_same] at z; cases z
    · rw [upd_ne c] at z; exact z
  · have c : b ≠ p := fun z => hb (by rw [z]; exact hp)
    rw [upd_ne c]
    exact e.keep b u (by rw [upd_ne c]; exact h) hb
  · have c := ne b _ h (fun z => nomatch z)
    rw [upd_ne c]
    exact e.tups b xs (by rw [upd_ne c]; exact h)
  · have c := ne b _ h (fun z => nomatch z)
    rw [upd_ne c]
    exact e.frzs b ob u (by rw [upd_ne c]; exact h)
  · have c := ne b _ h (fun z => nomatch z)
    rw [upd_ne c]
    exact e.owns b x (by rw [upd_ne c]; exact h)
  · by_cases c : b = p
    · rw [c, upd_same]; exact fun z => nomatch z
    · rw [upd_ne c]
      exact e.there b (by rw [upd_ne c]; exact h)
end

/-! ### [.. for k in d] -/
def dCompK (j : Nat) (g : DG) (vs : List Nat) (tt : DB) (te : DE) : DE := fun env S => match env[j]? with
  | some (some (.ref n)) => match S[n]? with
    | some (.dK kvs) => (compGo g (wipeE env vs) tt te (kvs.map fun kv => kD kv.1) [] (S.set n (.fK kvs))).bind fun acc S2 => match S2[n]? with
      | some (.fK kvs2) => .ok (.lst acc) (S2.set n (.dK kvs2))
      | _ => .bad
    | _ => .bad
  | _ => .bad
section
variable {X : Cx} {W : WX} {tg elt : Expr} {g : DG} {tt : DB} {te : DE} {scope : Scope} {own : List (Str × Nat)} {go : List Nat} {ifs : List Expr} {pos : Pos} {σ : St} {H : Hp} {Q : VK}
def CInvK (X : Cx) (W : WX) (n : Nat) (a : Addr) (od : Obj) (ps : List (Key × V)) (g : DG) (vs : List Nat) (tt : DB) (te : DE) (σ : St) (Q : VK) (env : Ev) (t r : List Addr) (H : Hp) (p : Addr) (ds : List D) (H2 : Hp) : Prop :=
  ∃ r2 S2 acc accV, r2[n]? = some a ∧ H2 a = some (.frz od (.dK ps)) ∧ H2 p = some (.lst accV) ∧ DenL X.K H2 r2 (p :: t) accV acc ∧ Rel X.K X.mg H2 r2 (p :: t) S2 (wipeE env vs) (wipe σ vs) ∧ Ext r (upd H a (.frz od (.dK ps))) r2 H2 ∧
      Good X.K X.mg t (EW W σ) r H ((compGo g (wipeE env vs) tt te ds acc S2).bind fun acc S2 => match S2[n]? with
      | some (.fK kvs2) => .ok (.lst acc) (S2.set n (.dK kvs2))
      | _ => .bad) fun d _ r' H' => ∀ v, Den X.K H' r' t v d → Q v H'
theorem tLcK_of {j : Nat} {vs : List Nat} (hgo : ∀ i ∈ go, i ∈ vs) (q : tE X W (dCompK j g vs tt te) σ H Q) : tLockE (tLc (iKeys (tVar j)) (tG X.K X.mg go g) (tB' X W0 tt) (tE X W0 te) vs) σ H Q := by
  obtain ⟨r, t, S, env, rel, g0⟩ := q
  unfold dCompK at g0
  split at g0
  case h_2 => exact (show False from g0).elim
  rename_i n hj
  split at g0
  case h_2 => exact (show False from g0).elim
  rename_i kvs hS
  obtain ⟨v, hv, dv⟩ := rel.en j _ hj
  cases dv with
  | @ref a n hn =>
  obtain ⟨ps, hp, z⟩ := rel.so.ok n a _ hn hS
  have ham : a ∈ r := List.mem_of_getElem? hn
  refine ⟨a, .dK ps, hp, trivial, fun od => ⟨.ref a, hv, a, od, rfl, .inl ⟨ps, upd_same, fun p hpn => ?_⟩⟩⟩
  have exl : Ext r H r (upd H a (.frz od (.dK ps))) := Ext.write hp trivial ham
  have sol : SOk X.K X.mg (upd H a (.frz od (.dK ps))) r t (S.set n (.fK kvs)) := rel.so.write (o := .frz od (.dK ps)) hn hp trivial ⟨od, ps, upd_same, DenP.ext exl z⟩
  have rell := rel.ext exl sol
  have nn := notinNew sol hpn
  have hlen : ps.length = kvs.length := z.len
  refine ⟨fun i m H2 => m = kvs.length - i ∧ i ≤ kvs.length ∧ CInvK X W n a od ps g vs tt te σ Q env t r H p ((kvs.map fun kv : Key × D => kD kv.1).drop i) H2,
    ⟨kvs.length, rfl, Nat.zero_le _, r, S.set n (.fK kvs), [], [], hn, by rw [upd_ne (fun e => nn.1 (by rw [← e]; exact ham))]; exact upd_same, upd_same, .nil, (rell.hide hpn).wipes vs, Ext.new hpn, g0⟩, ?_⟩
  rintro i m H2 ⟨rfl, hi, r2, S2, acc, accV, hn2, hA2, hD2, dacc, rel2, ex2, g2⟩
  have nD : p ∉ r2 := (rel2.so.hid p List.mem_cons_self).2
  by_cases hlt : i < kvs.length
  · have hlt' : i < (kvs.map fun kv => kD kv.1).length := by rw [List.length_map]; exact hlt
    have hpi : ps[i]?.map (·.1) = kvs[i]?.map (·.1) := by rw [← List.getElem?_map, ← List.getElem?_map, z.1]
    rw [List.drop_eq_getElem_cons hlt', List.getElem_map] at g2
    unfold compGo at g2
    cases hE : g (wipeE env vs) (kD kvs[i].1) with
    | none => rw [hE] at g2; exact (show False from g2).elim
    | some env' =>
      rw [hE] at g2
      dsimp only at g2
      rw [Out.bind_assoc] at g2
      refine .inr ⟨⟨hA2, by rw [hlen]; exact hlt⟩, fun H3 => CInvK X W n a od ps g vs tt te σ Q env t r H p ((kvs.map fun kv => kD kv.1).drop (i + 1)) H3, fun H' h => ⟨kvs.length - (i + 1), by omega, rfl, hlt, h⟩, fun x H' y => ?_⟩
      obtain ⟨eH, k, w, hk, ex⟩ := y
      subst eH ex
      have ek : k = kvs[i].1 := by
        rw [hk, List.getElem?_eq_getElem hlt] at hpi
        exact Option.some.inj hpi
      subst ek
      refine ⟨r2, p :: t, S2, wipeE env vs, kD kvs[i].1, rel2, kD_den _, env', hE, fun σ2 relS off => ⟨wipe_back off hgo, ?_⟩⟩
      refine ⟨r2, p :: t, S2, env', relS, (Good.split g2).mono fun b S3 r3 H3 ex3 so3 g3 => ?_⟩
      have hD3 : H3 p = some (.lst accV) := ex3.keep p _ hD2 nD
      have hA3 := ex3.frzs _ _ _ hA2
      have rel3 := rel2.ext ex3 so3
      have nD3 : p ∉ r3 := (so3.hid p List.mem_cons_self).2
      cases b with
      | false => exact iteF ⟨r3, S3, acc, accV, ex3.get hn2, hA3, hD3, DenL.ext ex3 _ _ dacc, rel3, ex2.trans ex3, g3⟩
      | true =>
        refine iteT ?_
        have g3' := g3
        rw [if_pos rfl, Out.bind_assoc] at g3'
        refine ⟨r3, p :: t, S3, env', relS.ext ex3 so3, (Good.split g3').mono fun y S4 r4 H4 ex4 so4 g4 yv dyv => ?_⟩
        have hD4 : H4 p = some (.lst accV) := ex4.keep p _ hD3 nD3
        have hA4 := ex4.frzs _ _ _ hA3
        have hz : acc.length < sizeLine ∧ Good X.K X.mg t (EW W σ) r H ((compGo g (wipeE env vs) tt te ((kvs.map fun kv => kD kv.1).drop (i + 1)) (acc ++ [y]) S4).bind fun acc S2 => match S2[n]? with
      | some (.fK kvs2) => .ok (.lst acc) (S2.set n (.dK kvs2))
      | _ => .bad) (fun d _ r' H' => ∀ v, Den X.K H' r' t v d → Q v H') := by
          by_cases hz : acc.length < sizeLine
          · rw [if_pos hz] at g4; exact ⟨hz, g4⟩
          · rw [if_neg hz] at g4; exact (show False from g4).elim
        have exB := ex3.trans ex4
        have hT : ∀ ys, H4 p ≠ some (.tup ys) := fun ys e => by rw [hD4] at e; cases e
        have hF : ∀ ob u, H4 p ≠ some (.frz ob u) := fun ob u e => by rw [hD4] at e; cases e
        have mD : p ∈ p :: t := List.mem_cons_self
        exact ⟨accV, hD4, by rw [dacc.length]; exact hz.1, r4, S4, acc ++ [y], accV ++ [yv], exB.get hn2, by rw [upd_ne (fun e => by rw [e, hD4] at hA4; cases hA4)]; exact hA4, upd_same, DenL.over mD hT hF _ _ ((DenL.ext exB _ _ dacc).append (.cons dyv .nil)), (rel3.ext ex4 so4).over mD hD4, (ex2.trans exB).overNew hpn, hz.2⟩
  · have e : i = kvs.length := by omega
    subst e
    rw [List.drop_of_length_le (by rw [List.length_map]; exact Nat.le_refl _)] at g2
    have g2' : Good X.K X.mg t (EW W σ) r H (match S2[n]? with
      | some (.fK kvs2) => Out.ok (D.lst acc) (S2.set n (.dK kvs2))
      | _ => .bad) fun d _ r' H' => ∀ v, Den X.K H' r' t v d → Q v H' := g2
    split at g2'
    case h_2 => exact (show False from g2').elim
    rename_i kvs2 hS2
    have sub : ∀ a ∈ t, a ∈ p :: t := fun a ha => List.mem_cons_of_mem _ ha
    have so3 := (rel2.so.less sub).unlock hn2 hA2 hS2
    have ex3 : Ext r H r2 (upd H2 a (.dK ps)) := Ext.unlock hp ham ex2
    refine .inl ⟨⟨hA2, by rw [hlen]; exact Nat.le_refl _⟩, hA2, ?_⟩
    refine g2' _ r2 ex3 so3 _ (.lst (by rw [upd_ne (fun e => by rw [e, hA2] at hD2; cases hD2)]; exact hD2) nD nn.2 (DenL.unlock hA2 (DenL.less sub _ _ dacc)))
theorem de_compK {j : Nat} {x : Str} {p : Pos} (hc : X.calm = true) (hN : X.N.Nodup) (ok : BlkOk X.N X.env.scope scope own) (hgo : ∀ i ∈ go, i ∈ own.map (·.2))
    (hg : ∀ (s : Shared) (H : Hp) (C : Addr) (cl : List (Str × Addr)) (fp : List Addr), PG (X.blk s H scope (compEnvC scope cl C X.env) fp) tg (tG X.K X.mg go g)) (ht : ∀ (s : Shared) (H : Hp) (C : Addr) (cl : List (Str × Addr)) (fp : List Addr), PTs (X.blk s H scope (compEnvC scope cl C X.env) fp) ifs (tB' X W0 tt))
    (he : ∀ (s : Shared) (H : Hp) (C : Addr) (cl : List (Str × Addr)) (fp : List Addr), PE (X.blk s H scope (compEnvC scope cl C X.env) fp) elt (tE X W0 te)) (hj : PE X (.Name x p) (tVar j)) (hs : ∀ y, foldedSetIterable (.Name x p) X.env y = pure y := by intro _; rfl) :
    PE X (.ListComp elt [⟨tg, .Name x p, ifs, 0⟩] scope pos) (tE X W (dCompK j g (own.map (·.2)) tt te)) :=
  PE.imp (pe_lock (pe_lc hc hN (pi_keys hj) ok hg ht he hs)) fun _ _ _ q => tLcK_of hgo q
theorem ds_setLcK (i : Nat) {E : XK} {y : Str} {py : Pos} {elt tg : Expr} {x : Str} {xp : Pos} {j : Nat} {ifs : List Expr} {scope : Scope} {own : List (Str × Nat)} {go : List Nat} {pos spos : Pos} {gg : DG} {tt : DB} {te : DE} (hc : X.calm = true) (hN : X.N.Nodup)
    (hsw : swapsWith (.ListComp elt [⟨tg, .Name x xp, ifs, 0⟩] scope pos) (some (.Name y py)) spos.line X.env = pure true) (ok : BlkOk X.N X.env.scope scope own) (hgo : ∀ i ∈ go, i ∈ own.map (·.2))
    (hg : ∀ (s : Shared) (H : Hp) (C : Addr) (cl : List (Str × Addr)) (fp : List Addr), PG (X.blk s H scope (compEnvC scope cl C X.env) fp) tg (tG X.K X.mg go gg)) (ht : ∀ (s : Shared) (H : Hp) (C : Addr) (cl : List (Str × Addr)) (fp : List Addr), PTs (X.blk s H scope (compEnvC scope cl C X.env) fp) ifs (tB' X W0 tt))
    (he : ∀ (s : Shared) (H : Hp) (C : Addr) (cl : List (Str × Addr)) (fp : List Addr), PE (X.blk s H scope (compEnvC scope cl C X.env) fp) elt (tE X W0 te)) (hj : PE X (.Name x xp) (tVar j)) (hy : X.N[i]? = some y := by rfl) (hyl : X.env.scope.names.lookup y = some .local := by rfl) (hs : ∀ z, foldedSetIterable (.Name x xp) X.env z = pure z := by intro _; rfl) :
    PS X (.Assign [.Name y py] (.ListComp elt [⟨tg, .Name x xp, ifs, 0⟩] scope pos) spos) (tS X E (sSet i (dCompK j gg (own.map (·.2)) tt te))) := by
  refine PS.imp (ps_lock (ps_setLc hc hN hy hyl hsw (pi_keys hj) ok hg ht he hs)) fun D σ H q => ?_
  obtain ⟨r, t, S, env, rel, g0⟩ := q
  obtain ⟨d, u, h1, h2, h3⟩ := tLcK_of (W := WC E) hgo ⟨r, t, S, env, rel, g0.bind.mono fun d S1 r1 H1 ex so g1 v dv => Good.here g1 so _ ((rel.ext ex so).set i dv)⟩
  exact ⟨d, u, h1, h2, h3⟩
theorem pv_of (i : Nat) {x : Str} {pos : Pos} (hN : X.N[i]? = some x := by rfl) (hv : Vis X.env.scope x := by first | exact Or.inl rfl | exact Or.inr (Or.inl rfl) | exact Or.inr (Or.inr rfl)) (hd : (x == ("__debug__" : Str)) = false := by decide)
    (hcd : (x == ("__classdict__" : Str)) = false := by decide) : PE X (.Name x pos) (tVar i) := pe_var hN hv hd hcd
theorem ds_setLcC (i : Nat) {E : XK} {y : Str} {py : Pos} {elt tg iter : Expr} {ifs : List Expr} {scope : Scope} {own : List (Str × Nat)} {go : List Nat} {pos spos : Pos} {fe : DE} {gg : DG} {tt : DB} {te : DE} (hc : X.calm = true) (hN : X.N.Nodup)
    (hsw : swapsWith (.ListComp elt [⟨tg, iter, ifs, 0⟩] scope pos) (some (.Name y py)) spos.line X.env = pure true) (hi : PE X iter (tE X (WC E) fe)) (ok : BlkOk X.N X.env.scope scope own) (hgo : ∀ i ∈ go, i ∈ own.map (·.2))
    (hg : ∀ (s : Shared) (H : Hp) (C : Addr) (cl : List (Str × Addr)) (fp : List Addr), PG (X.blk s H scope (compEnvC scope cl C X.env) fp) tg (tG X.K X.mg go gg)) (ht : ∀ (s : Shared) (H : Hp) (C : Addr) (cl : List (Str × Addr)) (fp : List Addr), PTs (X.blk s H scope (compEnvC scope cl C X.env) fp) ifs (tB' X W0 tt))
    (he : ∀ (s : Shared) (H : Hp) (C : Addr) (cl : List (Str × Addr)) (fp : List Addr), PE (X.blk s H scope (compEnvC scope cl C X.env) fp) elt (tE X W0 te)) (hy : X.N[i]? = some y := by rfl) (hyl : X.env.scope.names.lookup y = some .local := by rfl) (hs : ∀ x, foldedSetIterable iter X.env x = pure x := by intro _; rfl) :
    PS X (.Assign [.Name y py] (.ListComp elt [⟨tg, iter, ifs, 0⟩] scope pos) spos) (tS X E (sSet i (dCompC fe gg (own.map (·.2)) tt te))) := by
  refine PS.imp (ps_setLc hc hN hy hyl hsw (pi_list hi) ok hg ht he hs) fun D σ H q => ?_
  obtain ⟨r, t, S, env, rel, g0⟩ := q
  exact tLcC_of (W := WC E) hgo ⟨r, t, S, env, rel, g0.bind.mono fun d S1 r1 H1 ex so g1 v dv => Good.here g1 so _ ((rel.ext ex so).set i dv)⟩
end
def oListK : Sto → List D → Option D := fun S ds => match ds with
  | [.ref n] => match S[n]? with
    | some (.dK kvs) => some (.lst (kvs.map fun kv => kD kv.1))
    | _ => none
  | _ => none
theorem keysK_den {K : PySem.W.Frag} {H : Hp} {r t : List Addr} : ∀ {ps : List (Key × V)} {kvs : List (Key × D)}, ps.map (·.1) = kvs.map (·.1) → DenL K H r t (ps.map fun kv => kV kv.1) (kvs.map fun kv => kD kv.1)
  | [], [], _ => .nil
  | [], _ :: _, h => by cases h
  | _ :: _, [], h => by cases h
  | p :: ps, q :: qs, h => by
    rw [List.map_cons, List.map_cons] at h
    obtain ⟨h1, h2⟩ := List.cons.inj h
    rw [List.map_cons, List.map_cons, h1]
    exact .cons (kD_den _) (keysK_den h2)
theorem cd_listK {X : Cx} (hc : X.calm = true) : CallD X (.type "list") oListK := by
  refine ⟨_, call_listD hc, fun r t S H ds vs d Q so dv e q => ?_⟩
  unfold oListK at e
  split at e
  · cases dv with
    | cons d1 d2 =>
      cases d2
      cases d1 with
      | @ref a n hn =>
        split at e
        · rename_i kvs hS
          cases e
          obtain ⟨ps, hp, z⟩ := so.ok _ a _ hn hS
          exact ⟨a, ps, rfl, .inl hp, fun p hn0 => newL so hn0 (keysK_den z.1) q⟩
        · cases e
  · cases e
def oListB : Sto → List D → Option D := orC oListC oListK
theorem cd_listB {X : Cx} (hc : X.calm = true) : CallD X (.type "list") oListB := cd_list.or (cd_listK hc)
/-- d != {} -/
def oNeK : Sto → D → D → Option D := fun S x y => match x, y with
  | .ref n, .ref m => match S[n]?, S[m]? with
    | some (.dK kvs), some (.dK []) => some (.bl (!kvs.isEmpty))
    | _, _ => none
  | _, _ => none
theorem op_ne_empty {X : Cx} (hu : X.A.units < cLine) : OpR X (compareOp .NotEq) (fun x y H Q => ∃ a b ks, x = .ref a ∧ y = .ref b ∧ H a = some (.dK ks) ∧ H b = some (.dK []) ∧ Q (.bl (!ks.isEmpty)) H) := by
  intro pins s σ H x y v u Q I rx ry h
  obtain ⟨a, b, ks, rfl, rfl, ea, eb, q⟩ := h
  obtain rfl : v = Value.ref a := rx
  obtain rfl : u = Value.ref b := ry
  obtain ⟨_, ya, va, ra, da⟩ := (show ObjOk X.prog X.w H s.heap a (.dK ks) from I.hok a _ ea)
  obtain ⟨_, yb, vb, rb, db⟩ := (show ObjOk X.prog X.w H s.heap b (.dK []) from I.hok b _ eb)
  cases rb
  have hl : va.length = ks.length := ra.length.symm
  refine PySem.W.keq_ne (knd := mixKind X.prog X.w) (r := true) ya yb da db hu (fun e => ?_) ?_
  · have : va = [] := List.length_eq_zero_iff.mp e
    rw [this]
    exact .nil
  · refine fin_bl I q ?_
    cases ks with
    | nil => have : va = [] := List.length_eq_zero_iff.mp hl; rw [this]; rfl
    | cons k ks => cases va with
      | nil => cases hl
      | cons w va => rfl
theorem od_neK {X : Cx} (hu : X.A.units + 1 < cLine) : OpD X (compareOp .NotEq) oNeK := by
  refine ⟨_, op_ne_empty (Nat.lt_of_succ_lt hu), fun r t S H x y v u d Q so dx dy e q => ?_⟩
  unfold oNeK at e
  split at e
  · rename_i n m
    split at e
    · rename_i kvs h1 h2
      cases e
      cases dx with
      | @ref a n hn =>
        cases dy with
        | @ref b m hm =>
          obtain ⟨ps, hp, z⟩ := so.ok n a _ hn h1
          obtain ⟨qs, hq, z2⟩ := so.ok m b _ hm h2
          have eq : qs = [] := List.length_eq_zero_iff.mp z2.len
          subst eq
          have ee : ps.isEmpty = kvs.isEmpty := by
            have := z.len
            cases ps <;> cases kvs <;> first | rfl | (simp at this)
          refine ⟨a, b, ps, rfl, rfl, hp, hq, ?_⟩
          rw [ee]
          exact q _ _ (Ext.refl _ _) so (.bl _)
    · cases e
  · cases e
section
variable {X : Cx} {W : WX}
theorem de_callF0 {CX : CXT} {k : Nat} {fa : Addr} {fd : FuncData} {ps : List Str} {fn : Fn} {x : Str} {p pos : Pos} (F : FnOk X.prog X.w X.K X.mg X.base CX k fa fd ps (spD X.K X.mg 0 fn)) (hr : Room k X.A) (hg : Gl X x) (hm : X.mg x = some (.ref fa)) (hk : PySem.W.keepIn X.K (.ref fa) = true) (hb : Binds X.K fd ps []) (hx : Thru CX X W)
    (hdb : (x == ("__debug__" : Str)) = false := by decide) : PE X (.Call (.Name x p) [] [] pos) (tE X W (dCallF fn aNil)) := by
  refine ⟨fun pins s σ H Q I h => ?_⟩
  obtain ⟨r, t, S, env, rel, g⟩ := h
  refine wpAny_Call_Name_kw (ld_glob I hg hm ?_ hdb)
  exact PySem.W.callWith_K0 I.kIn hk (run_fnS (us := []) F hr hb (hx σ) I .nil ⟨rfl, r, t, S, [], rel.so, .nil, g⟩)
theorem de_callC0 {CX : CXT} {k : Nat} {fn : Fn} {x : Str} {p pos : Pos} (c : Callee X.prog X.w X.K X.mg X.base CX k x 0 fn) (hr : Room k X.A) (hx : Thru CX X W) (hg : Gl X x := by rfl) (hdb : (x == ("__debug__" : Str)) = false := by decide) : PE X (.Call (.Name x p) [] [] pos) (tE X W (dCallF fn aNil)) := by
  obtain ⟨f, fd, ps, F, a, b, d⟩ := c
  exact de_callF0 F hr hg a b d hx hdb
end
end DL
end L2

set_option Elab.async false
set_option linter.all false
set_option maxRecDepth 100000
namespace L2
namespace DL
open PySem PySem.Spec PyProof.Rows
/-! ### d.get(k), d.get(k, x) -/
def isTab2 (S : Sto) : D → Bool
  | .ref n => match S[n]? with
    | some (.dK _) => true
    | some (.dT _) => true
    | some (.fK _) => true
    | some (.fT _) => true
    | _ => false
  | _ => false
theorem isTab2_ok {K : PySem.W.Frag} {mg : Str → Option Value} {H : Hp} {r t : List Addr} {S : Sto} {v : V} {d : D} (so : SOk K mg H r t S) (dv : Den K H r t v d) (h : isTab2 S d = true) : ∃ a, v = .ref a ∧ IsD H a := by
  cases dv with
  | @ref a n hn =>
    unfold isTab2 at h
    dsimp only at h
    split at h
    · rename_i kvs hS
      obtain ⟨ps, hp, _⟩ := so.ok n a _ hn hS
      exact ⟨a, rfl, .inl ⟨_, .inl hp⟩⟩
    · rename_i kvs hS
      obtain ⟨ps, hp, _⟩ := so.ok n a _ hn hS
      exact ⟨a, rfl, .inr ⟨_, .inl hp⟩⟩
    · rename_i kvs hS
      obtain ⟨o, ps, hp, _⟩ := so.ok n a _ hn hS
      exact ⟨a, rfl, .inl ⟨_, .inr ⟨_, hp⟩⟩⟩
    · rename_i kvs hS
      obtain ⟨o, ps, hp, _⟩ := so.ok n a _ hn hS
      exact ⟨a, rfl, .inr ⟨_, .inr ⟨_, hp⟩⟩⟩
    · cases h
  | _ => cases h
def oGet1 (S : Sto) (d y : D) : Option D := (getT S d y).map fun o => o.getD .non
def oGet2 (S : Sto) (d y x : D) : Option D := (getT S d y).map fun o => o.getD x
def dGet1 (fo fi : DE) : DE := fun env S => (fo env S).bind fun o S1 => if isTab2 S1 o = true then (fi env S1).bind fun i S2 => lift (oGet1 S2 o i) S2 else .bad
def dGet2 (fo fi fx : DE) : DE := fun env S => (fo env S).bind fun o S1 => if isTab2 S1 o = true then (fi env S1).bind fun i S2 => (fx env S2).bind fun x S3 => lift (oGet2 S3 o i x) S3 else .bad
section
variable {X : Cx} {W : WX} {o e f : Expr} {fo fi fx : DE} {apos cpos : Pos}
theorem de_get1 (hu : X.A.units + 1 < cLine) (ho : PE X o (tE X W fo)) (he : PE X e (tE X W fi)) (m : M1 X o "get" apos e cpos) : PE X (.Call (.Attribute o "get" apos) [e] [] cpos) (tE X W (dGet1 fo fi)) := by
  refine PE.imp (pe_dget1 hu ho he m) fun σ H Q q => ?_
  obtain ⟨r, t, S, env, rel, g⟩ := q
  refine ⟨r, t, S, env, rel, g.bind.mono fun od S1 r1 H1 ex so g1 v dv => ?_⟩
  have rel1 := rel.ext ex so
  obtain ⟨hty, g2⟩ := g1.ite
  obtain ⟨a, ev, hD⟩ := isTab2_ok so dv hty
  subst ev
  refine ⟨a, rfl, hD, r1, t, S1, env, rel1, g2.bind.mono fun i S2 r2 H2 ex2 so2 g3 iv di => ?_⟩
  obtain ⟨d, e1, g4⟩ := g3.lift
  obtain ⟨od2, e2, e3⟩ := Option.map_eq_some_iff.mp e1
  obtain ⟨a2, ov, ev, gg, hs, h2⟩ := getT_ok so2 (Den.ext ex2 _ _ dv) di e2
  cases ev
  refine ⟨ov, gg, ?_⟩
  cases od2 with
  | none =>
    have : ov = none := by cases ov with | none => rfl | some x => cases hs
    subst this e3
    exact g4.here so2 _ .non
  | some y =>
    obtain ⟨w, e4, dw⟩ := h2 y rfl
    subst e4 e3
    exact g4.here so2 _ dw
theorem de_get2 (hu : X.A.units + 1 < cLine) (ho : PE X o (tE X W fo)) (he : PE X e (tE X W fi)) (hf : PE X f (tE X W fx)) (m : M2 X o "get" apos e f cpos) : PE X (.Call (.Attribute o "get" apos) [e, f] [] cpos) (tE X W (dGet2 fo fi fx)) := by
  refine PE.imp (pe_dget2 hu ho he hf m) fun σ H Q q => ?_
  obtain ⟨r, t, S, env, rel, g⟩ := q
  refine ⟨r, t, S, env, rel, g.bind.mono fun od S1 r1 H1 ex so g1 v dv => ?_⟩
  have rel1 := rel.ext ex so
  obtain ⟨hty, g2⟩ := g1.ite
  obtain ⟨a, ev, hD⟩ := isTab2_ok so dv hty
  subst ev
  refine ⟨a, rfl, hD, r1, t, S1, env, rel1, g2.bind.mono fun i S2 r2 H2 ex2 so2 g3 iv di => ?_⟩
  refine ⟨r2, t, S2, env, rel1.ext ex2 so2, g3.bind.mono fun x S3 r3 H3 ex3 so3 g3' xv dx => ?_⟩
  obtain ⟨d, e1, g4⟩ := g3'.lift
  obtain ⟨od2, e2, e3⟩ := Option.map_eq_some_iff.mp e1
  obtain ⟨a2, ov, ev, gg, hs, h2⟩ := getT_ok so3 (Den.ext (ex2.trans ex3) _ _ dv) (Den.ext ex3 _ _ di) e2
  cases ev
  refine ⟨ov, gg, ?_⟩
  cases od2 with
  | none =>
    have : ov = none := by cases ov with | none => rfl | some x => cases hs
    subst this e3
    exact g4.here so3 _ dx
  | some y =>
    obtain ⟨w, e4, dw⟩ := h2 y rfl
    subst e4 e3
    exact g4.here so3 _ dw
end
section
variable {env : Ev} {S : Sto} {P : D → Sto → Prop} {fo fi fx : DE}
def kGet1 (fi : DE) (env : Ev) (P : D → Sto → Prop) (o : D) (S1 : Sto) : Prop := isTab2 S1 o = true ∧ Wp (fi env S1) fun i S2 => ∃ v, oGet1 S2 o i = some v ∧ P v S2
theorem w_Get1 (h : Wp (fo env S) (kGet1 fi env P)) : Wp (dGet1 fo fi env S) P := by
  unfold dGet1
  rw [wp_bind]
  refine h.mono fun o S1 q => ?_
  obtain ⟨h1, h2⟩ := q
  rw [if_pos h1, wp_bind]
  refine h2.mono fun i S2 q => ?_
  obtain ⟨v, e, p⟩ := q
  exact wp_lift e p
def kGet2 (fi fx : DE) (env : Ev) (P : D → Sto → Prop) (o : D) (S1 : Sto) : Prop := isTab2 S1 o = true ∧ Wp (fi env S1) fun i S2 => Wp (fx env S2) fun x S3 => ∃ v, oGet2 S3 o i x = some v ∧ P v S3
theorem w_Get2 (h : Wp (fo env S) (kGet2 fi fx env P)) : Wp (dGet2 fo fi fx env S) P := by
  unfold dGet2
  rw [wp_bind]
  refine h.mono fun o S1 q => ?_
  obtain ⟨h1, h2⟩ := q
  rw [if_pos h1, wp_bind]
  refine h2.mono fun i S2 q => ?_
  rw [wp_bind]
  refine q.mono fun x S3 q => ?_
  obtain ⟨v, e, p⟩ := q
  exact wp_lift e p
end
/-! ### x.pop() -/
def dPopL (fo : DE) : DE := fun env S => (fo env S).bind fun o S1 => match o with
  | .ref n => match S1[n]? with
    | some (.lst ds) => match ds[ds.length - 1]? with
      | some d => .ok d (S1.set n (.lst ds.dropLast))
      | none => .bad
    | _ => .bad
  | _ => .bad
theorem DenL.dropLast {K : PySem.W.Frag} {H : Hp} {r t : List Addr} : ∀ {vs : List V} {ds : List D}, DenL K H r t vs ds → DenL K H r t vs.dropLast ds.dropLast
  | _, _, .nil => .nil
  | _, _, .cons h .nil => .nil
  | _, _, .cons h (.cons h2 h3) => .cons h (DenL.dropLast (.cons h2 h3))
theorem de_popL {X : Cx} {W : WX} {o : Expr} {fo : DE} {apos cpos : Pos} (ho : PE X o (tE X W fo)) (hbase : attributeBase o "pop" X.env (eval o X.env) = eval o X.env := by rfl) (hline : (apos.endLine == cpos.line) = true := by rfl) : PE X (.Call (.Attribute o "pop" apos) [] [] cpos) (tE X W (dPopL fo)) := by
  refine PE.imp (pe_bm0 PySem.F.plainAttrs_list PySem.F.slot_list_pop PySem.F.type_list_pop mt_pop ho hbase hline) fun σ H Q q => ?_
  obtain ⟨r, t, S, env, rel, g⟩ := q
  refine ⟨r, t, S, env, rel, g.bind.mono fun od S1 r1 H1 ex so g1 v dv => ?_⟩
  split at g1
  · rename_i n
    split at g1
    · rename_i ds hS
      split at g1
      · rename_i d hd
        cases dv with
        | @ref a n hn =>
          obtain ⟨xs, hx, z⟩ := so.ok n a _ hn hS
          obtain ⟨y, hy, dy⟩ := z.get hd
          obtain ⟨ex3, so3⟩ := put_lst so hn hx z.dropLast
          refine ⟨Or.inl ⟨rfl, _, SqL.of hx⟩, a, xs, y, rfl, rfl, hx, by rw [z.length]; exact hy, ?_⟩
          exact g1 _ r1 ex3 so3 y (Den.ext ex3 _ _ dy)
      · exact (show False from g1).elim
    · exact (show False from g1).elim
  · exact (show False from g1).elim
def kPopL (P : D → Sto → Prop) (o : D) (S1 : Sto) : Prop := ∃ n ds d, o = .ref n ∧ S1[n]? = some (.lst ds) ∧ ds[ds.length - 1]? = some d ∧ P d (S1.set n (.lst ds.dropLast))
theorem w_PopL {env : Ev} {S : Sto} {P : D → Sto → Prop} {fo : DE} (h : Wp (fo env S) (kPopL P)) : Wp (dPopL fo env S) P := by
  unfold dPopL
  rw [wp_bind]
  refine h.mono fun o S1 q => ?_
  obtain ⟨n, ds, d, eo, h1, h2, p⟩ := q
  subst eo
  dsimp only
  rw [h1]
  dsimp only
  rw [h2]
  exact Wp.of rfl p
end DL
end L2

set_option Elab.async false
set_option linter.all false
set_option maxRecDepth 100000
set_option maxHeartbeats 1000000
/-! tables with tuple keys: == and !=. -/
namespace L2
open PySem PySem.Spec PySem.Calls PyProof.Rows PyProof.V
section
variable {prog : Program} {w : World} {K : Type} [DecidableEq K] {knd : HeapKind prog w K} {A : Around} {E : Value → Shared → Prop} {s : Shared}
inductive HitsH {K : Type} [DecidableEq K] (A : Around) (s : Shared) (kb : List (K × Addr × Value)) : List (K × Addr × Value) → Bool → Prop
  | nil : HitsH A s kb [] true
  | miss {k : K} {v : Addr × Value} {r : List (K × Addr × Value)} : atKey kb k = none → HitsH A s kb ((k, v) :: r) false
  | hit {k : K} {v y : Addr × Value} {r : List (K × Addr × Value)} {e b : Bool} : atKey kb k = some y → SeqAt.EqAt A s v.2 y.2 e → HitsH A s kb r b → HitsH A s kb ((k, v) :: r) (e && b)
theorem HitsH.inv {kb : List (K × Addr × Value)} {k : K} {v : Addr × Value} {r : List (K × Addr × Value)} {b : Bool} (h : HitsH A s kb ((k, v) :: r) b) :
    (atKey kb k = none ∧ b = false) ∨ ∃ y e b', atKey kb k = some y ∧ SeqAt.EqAt A s v.2 y.2 e ∧ HitsH A s kb r b' ∧ b = (e && b') := by
  cases h with
  | miss hn => exact .inl ⟨hn, rfl⟩
  | hit hy he hr => exact .inr ⟨_, _, _, hy, he, hr, rfl⟩
theorem samePairsH {nm : String} {a b : Addr} {ka kb : List (K × Addr × Value)} {r : Bool} {Q : Bool → Shared → Prop} (ha : (a == sysModules) = false) (hb : (b == sysModules) = false) (hu : knd.room A)
    (da : s.heap.DictOfH knd a ka) (db : s.heap.DictOfH knd b kb) (hits : ka.length = kb.length → HitsH A s kb ka r) (h : Q (ka.length == kb.length && r) s) :
    wpAny (model prog w) A (Builtin.Dict.samePairs nm a b) Q E s := by
  obtain ⟨oa, es, ep, hoa, _, hda, hea, hka, hna⟩ := da
  obtain ⟨ob, es', ep', hob, _, hdb, heb, hkb, hnb⟩ := db
  have hla : ka.length = es.size := (size_of_entries hea).symm
  have hlb : kb.length = es'.size := (size_of_entries heb).symm
  rw [hla, hlb] at h
  unfold Builtin.Dict.samePairs Builtin.Dict.showsAll
  rw [if_neg (show ¬ (a == sysModules) = true by rw [ha]; exact Bool.false_ne_true), if_neg (show ¬ (b == sysModules) = true by rw [hb]; exact Bool.false_ne_true)]
  refine wpAny_bind (wpAny_pure (wpAny_bind (wpAny_pure ?_)))
  refine wpAny_bind (wpAny_dictEntries hoa hda ?_)
  dsimp only
  refine wpAny_bind (wpAny_dictEntries hob hdb ?_)
  by_cases hsz : es.size = es'.size
  case neg =>
    rw [if_pos (by simpa using hsz)]
    have hbf : (es.size == es'.size) = false := by simpa using hsz
    rw [hbf, Bool.false_and] at h
    exact wpAny_bind (wpAny_rule (wpAny_pure h))
  case pos =>
    have h' : Q r s := by simpa [hsz] using h
    have hits' := hits (by rw [hla, hlb]; exact hsz)
    rw [if_neg (by rw [hsz]; simp)]
    refine wpAny_bind (wpAny_dictEpoch hoa hda ?_)
    refine wpAny_bind ?_
    rw [Std.Legacy.Range.forIn_eq_forIn_range']
    simp only [Std.Legacy.Range.size, Nat.sub_zero, Nat.add_sub_cancel, Nat.div_one]
    refine wpAny_forIn_list _
      (fun rest q s' => s' = s ∧ q = (none, ()) ∧ ∃ i, rest = List.range' i (es.size - i) ∧ i ≤ es.size ∧ HitsH A s kb (ka.drop i) r)
      _ ?_ ?_ _ _ ⟨rfl, rfl, 0, by simp, Nat.zero_le _, hits'⟩
    · rintro x rest q s' ⟨rfl, rfl, i, hr, hi, hpre⟩
      have hlt : i < es.size := by
        rcases Nat.lt_or_ge i es.size with h | h
        · exact h
        · rw [Nat.sub_eq_zero_of_le h] at hr; simp at hr
      obtain ⟨rfl, hrest⟩ : x = i ∧ rest = List.range' (i + 1) (es.size - (i + 1)) := by
        have e : es.size - i = (es.size - (i + 1)) + 1 := by omega
        rw [e, List.range'_succ] at hr
        injection hr with h1 h2
        exact ⟨h1, h2⟩
      refine wpAny_bind (wpAny_dictEntries hoa hda ?_)
      have hlt' : x < ka.length := by rw [hla]; exact hlt
      obtain ⟨k, p, hkv⟩ : ∃ k p, ka[x] = (k, p) := ⟨_, _, rfl⟩
      have hdrop : ka.drop x = (k, p) :: ka.drop (x + 1) := by rw [← hkv]; exact List.drop_eq_getElem_cons hlt'
      have hent : es[x]? = some (entryOfKey knd (k, p)) := by rw [entry_at hea, List.getElem?_eq_getElem hlt', hkv]; rfl
      have hkey : knd.is s'.heap k p.1 := by
        have := hka ka[x] (List.getElem_mem hlt')
        rw [hkv] at this
        exact this
      rw [hent]
      rw [hdrop] at hpre
      show wpAny _ _ (holding [.ref p.1, p.2] _ >>= _) _ _ _
      refine wpAny_bind (wpAny_holding (wpAny_bind (wpAny_dictFind_heap hu hkey hob hdb heb hkb hnb ?_ ?_)))
      · intro hno
        have hn := atKey_none_of_get hno
        rcases hpre.inv with ⟨_, er⟩ | ⟨y, _, _, hy, _⟩
        · rw [er] at h'
          refine wpAny_pure ?_
          show wpAny _ _ (if (!false) = true then _ else _) _ _ _
          rw [if_pos (by decide)]
          exact wpAny_pure (wpAny_pure h')
        · rw [hn] at hy; exact nomatch hy
      · intro j q hj
        have hv' : atKey kb k = some q := atKey_of_get hnb hj
        refine wpAny_bind (wpAny_dictEntries hob hdb ?_)
        rw [entry_at heb, hj]
        rcases hpre.inv with ⟨hn, _⟩ | ⟨y, e, b', hy, he, hrr, er⟩
        · rw [hv'] at hn; exact nomatch hn
        · have ey : q = y := Option.some.inj (hv'.symm.trans hy)
          rw [← ey] at he
          refine wpAny_holding (he prog w _ _ ?_)
          cases e with
          | false =>
            rw [er, Bool.false_and] at h'
            show wpAny _ _ (if (!false) = true then _ else _) _ _ _
            rw [if_pos (by decide)]
            exact wpAny_pure (wpAny_pure h')
          | true =>
            rw [Bool.true_and] at er
            rw [← er] at hrr
            show wpAny _ _ (if (!true) = true then _ else _) _ _ _
            rw [if_neg (by decide)]
            refine wpAny_bind (wpAny_dictEpoch hoa hda ?_)
            rw [if_neg (by simp)]
            exact wpAny_pure ⟨rfl, rfl, x + 1, hrest, hlt, hrr⟩
    · rintro q s' ⟨rfl, rfl, i, hr, hi, hpre⟩
      have hin : i = es.size := by
        rcases Nat.lt_or_ge i es.size with h | h
        · have e : es.size - i = (es.size - (i + 1)) + 1 := by omega
          rw [e, List.range'_succ] at hr; exact nomatch hr
        · exact Nat.le_antisymm hi h
      refine wpAny_pure ?_
      rw [hin, ← hla, List.drop_length] at hpre
      cases hpre
      exact h'
theorem dictsH_eq {a b : Addr} {ka kb : List (K × Addr × Value)} {r : Bool} {Q : Value → Shared → Prop} (ha : (a == sysModules) = false) (hb : (b == sysModules) = false) (hr : knd.room A.in1)
    (da : s.heap.DictOfH knd a ka) (db : s.heap.DictOfH knd b kb) (hu : A.units < cLine) (hits : ka.length = kb.length → HitsH A.in1 s kb ka r) (h : Q (.bool (ka.length == kb.length && r)) s) :
    wpAny (model prog w) A (compareOp .Eq (.ref a) (.ref b)) Q E s := by
  refine wpAny_richCompare_same_room (op := .Eq) da.typeIs db.typeIs PySem.F.slot_dict_eq (wpAny_call_entry PySem.F.slot_dict_eq da.typeIs PySem.F.entry_dict_eq ?_ (PySem.F.args_dict_eq_2 _ _)) hu
  show wpAny _ _ (Builtin.Dict.dictSlotArgs "__eq__" ⟨[.ref a, .ref b], []⟩ >>= _) _ _ s
  refine wpAny_bind ?_
  unfold Builtin.Dict.dictSlotArgs
  refine wpAny_bind (wpAny_notOrdered_dict da.typeIs ?_)
  show wpAny _ _ (pure (Value.ref a, Value.ref b)) _ _ s
  refine wpAny_pure ?_
  refine wpAny_bind (wpAny_isInstance (T := "dict") db.typeIs PySem.F.sub_dict_dict ?_)
  simp only [Bool.not_true, Bool.false_eq_true, if_false]
  refine wpAny_bind (wpAny_pure (wpAny_bind (wpAny_pure ?_)))
  refine wpAny_bind (samePairsH ha hb hr da db hits ?_)
  refine wpAny_pure ⟨_, rfl, ?_, ?_⟩
  · exact fun x => nomatch x
  · simpa using h
theorem dictsH_ne {a b : Addr} {ka kb : List (K × Addr × Value)} {r : Bool} {Q : Value → Shared → Prop} (ha : (a == sysModules) = false) (hb : (b == sysModules) = false) (hr : knd.room A.in1)
    (da : s.heap.DictOfH knd a ka) (db : s.heap.DictOfH knd b kb) (hu : A.units < cLine) (hits : ka.length = kb.length → HitsH A.in1 s kb ka r) (h : Q (.bool (!(ka.length == kb.length && r))) s) :
    wpAny (model prog w) A (compareOp .NotEq (.ref a) (.ref b)) Q E s := by
  refine wpAny_richCompare_same_room (op := .NotEq) da.typeIs db.typeIs PySem.F.slot_dict_ne (wpAny_call_entry PySem.F.slot_dict_ne da.typeIs PySem.F.entry_dict_ne ?_ (PySem.F.args_dict_ne_2 _ _)) hu
  show wpAny _ _ (Builtin.Dict.dictSlotArgs "__ne__" ⟨[.ref a, .ref b], []⟩ >>= _) _ _ s
  refine wpAny_bind ?_
  unfold Builtin.Dict.dictSlotArgs
  refine wpAny_bind (wpAny_notOrdered_dict da.typeIs ?_)
  show wpAny _ _ (pure (Value.ref a, Value.ref b)) _ _ s
  refine wpAny_pure ?_
  refine wpAny_bind (wpAny_isInstance (T := "dict") db.typeIs PySem.F.sub_dict_dict ?_)
  simp only [Bool.not_true, Bool.false_eq_true, if_false]
  refine wpAny_bind (wpAny_pure (wpAny_bind (wpAny_pure ?_)))
  refine wpAny_bind (samePairsH ha hb hr da db hits ?_)
  refine wpAny_pure ⟨_, rfl, ?_, ?_⟩
  · exact fun x => nomatch x
  · simpa using h
end
namespace DL
/-- a table's values read -/
def tabPy : List (List Key × D) → Option (List (List Key × PyData))
  | [] => some []
  | (k, d) :: r => match toPy d, tabPy r with
    | some p, some ps => if SeqAt.shaped p = true then some ((k, p) :: ps) else none
    | _, _ => none
def findPy (b : List (List Key × PyData)) (k : List Key) : Option PyData := (b.find? fun x => decide (x.1 = k)).map (·.2)
def subPy (b : List (List Key × PyData)) : List (List Key × PyData) → Bool
  | [] => true
  | (k, p) :: r => match findPy b k with
    | some q => PyData.eqv p q && subPy b r
    | none => false
def eqTabB (a b : List (List Key × PyData)) : Bool := a.length == b.length && subPy b a
def oEqT (neg : Bool) : Sto → D → D → Option D := fun S x y => match x, y with
  | .ref n, .ref m => match S[n]?, S[m]? with
    | some (.dT kvs), some (.dT jvs) => match tabPy kvs, tabPy jvs with
      | some a, some b => some (.bl (neg ^^ eqTabB a b))
      | _, _ => none
    | _, _ => none
  | _, _ => none
inductive Lk (s : Shared) : List (List Key × Addr × Value) → List (List Key × PyData) → Prop
  | nil : Lk s [] []
  | cons {k : List Key} {c : Addr} {u : Value} {p : PyData} {as : List Addr} {xs : List (List Key × Addr × Value)} {ps : List (List Key × PyData)} : Reads s.heap u p as → SeqAt.shaped p = true → Lk s xs ps → Lk s ((k, c, u) :: xs) ((k, p) :: ps)
theorem Lk.length {s : Shared} {xs : List (List Key × Addr × Value)} {ps : List (List Key × PyData)} (h : Lk s xs ps) : xs.length = ps.length := by
  induction h with
  | nil => rfl
  | cons _ _ _ ih => rw [List.length_cons, List.length_cons, ih]
theorem Lk.find {s : Shared} {xs : List (List Key × Addr × Value)} {ps : List (List Key × PyData)} (h : Lk s xs ps) (k : List Key) :
    (atKey xs k = none ∧ findPy ps k = none) ∨ ∃ y q as, atKey xs k = some y ∧ findPy ps k = some q ∧ Reads s.heap y.2 q as ∧ SeqAt.shaped q = true := by
  induction h with
  | nil => exact .inl ⟨rfl, rfl⟩
  | @cons k' c u p as xs ps hr hs _ ih =>
    unfold atKey findPy
    rw [List.find?_cons, List.find?_cons]
    by_cases e : k' = k
    · rw [decide_eq_true e]
      exact .inr ⟨(c, u), p, as, rfl, rfl, hr, hs⟩
    · rw [decide_eq_false e]
      exact ih
theorem lk_of {X : Cx} {pins : List (Addr × Obj)} {σ : St} {H : Hp} {s : Shared} {r t : List Addr} (I : Inv X pins σ H s) : ∀ {kvs : List (List Key × D)} {ps : List (List Key × V)} {xs : List (List Key × Addr × Value)} {a : List (List Key × PyData)},
    KT H ps xs → ps.map (·.1) = kvs.map (·.1) → DenL X.K H r t (ps.map (·.2)) (kvs.map (·.2)) → tabPy kvs = some a → Lk s xs a
  | [], [], _, _, kt, _, _, h => by
    cases kt
    cases h
    exact .nil
  | [], _ :: _, _, _, _, hk, _, _ => by cases hk
  | _ :: _, [], _, _, _, hk, _, _ => by cases hk
  | (k, d) :: kvs, (k2, v) :: ps, _, a, kt, hk, hv, h => by
    cases kt with
    | @cons _ q _ qs hq kt =>
      obtain ⟨q1, qa, qu⟩ := q
      obtain ⟨h1, h2, h3⟩ := hq
      have h1' : k2 = q1 := h1
      subst h1'
      rw [List.map_cons, List.map_cons] at hk
      obtain ⟨ek, hk2⟩ := List.cons.inj hk
      have ek' : k2 = k := ek
      subst ek'
      rw [List.map_cons, List.map_cons] at hv
      cases hv with
      | cons dv hv2 =>
        unfold tabPy at h
        split at h
        · rename_i p pps e1 e2
          split at h
          · rename_i hs
            cases h
            obtain ⟨as, rd⟩ := Dp.reads I p v qu (toPy_ok d v p dv e1) h3
            exact .cons rd hs (lk_of I kt hk2 hv2 e2)
          · cases h
        · cases h
theorem hits_of {A : Around} {s : Shared} {xb : List (List Key × Addr × Value)} {b : List (List Key × PyData)} (hu : A.in1.units + 64 < cLine) (lb : Lk s xb b) : ∀ {xa : List (List Key × Addr × Value)} {a : List (List Key × PyData)}, Lk s xa a → HitsH A.in1 s xb xa (subPy b a)
  | _, _, .nil => .nil
  | _, _, .cons (k := k) (c := c) (u := u) (p := p) (ps := ps) hr hs la => by
    rcases lb.find k with ⟨h1, h2⟩ | ⟨y, q, as, h1, h2, h3, h4⟩
    · unfold subPy
      rw [h2]
      exact .miss h1
    · unfold subPy
      rw [h2]
      exact .hit (v := (c, u)) h1 (PySem.W.keq_at hr h3 hs h4 hu) (hits_of hu lb la)
theorem op_eqT {X : Cx} {r t : List Addr} (neg : Bool) (hu : X.A.units + 65 < cLine) (S : Sto) {pins : List (Addr × Obj)} {s : Shared} {σ : St} {H : Hp} {v u : V} {x y : Value} {Q : VK} {dx dy d : D} (I : Inv X pins σ H s) (so : SOk X.K X.mg H r t S) (rx : RelV v x) (ry : RelV u y) (hx : Den X.K H r t v dx) (hy : Den X.K H r t u dy) (e : oEqT neg S dx dy = some d) (q : ∀ w, Den X.K H r t w d → Q w H) :
    wpAny (model X.prog X.w) X.A (compareOp (if neg = true then .NotEq else .Eq) x y) (EP X pins σ Q) X.xe s := by
  unfold oEqT at e
  split at e
  case h_2 => cases e
  rename_i n m
  split at e
  case h_2 => cases e
  rename_i kvs jvs hS1 hS2
  split at e
  case h_2 => cases e
  rename_i a b ea eb
  cases e
  cases hx with
  | @ref p n hn =>
  cases hy with
  | @ref p2 m hm =>
  obtain ⟨ps, hp, z⟩ := so.ok n p _ hn hS1
  obtain ⟨js, hj, z2⟩ := so.ok m p2 _ hm hS2
  obtain rfl : x = Value.ref p := rx
  obtain rfl : y = Value.ref p2 := ry
  obtain ⟨_, y1, xs, kt1, dd1⟩ := dt_of I.hok hp
  obtain ⟨_, y2, ys, kt2, dd2⟩ := dt_of I.hok hj
  have la := lk_of I kt1 z.1 z.2 ea
  have lb := lk_of I kt2 z2.1 z2.2 eb
  have hh := hits_of (A := X.A) (by show X.A.units + 1 + 64 < cLine; omega) lb la
  have hl : (xs.length == ys.length && subPy b a) = eqTabB a b := by unfold eqTabB; rw [la.length, lb.length]
  have room := tupleKind_room_in1 (knd := mixKind X.prog X.w) (A := X.A) (show X.A.units + 1 < cLine by omega)
  have dn : Den X.K H r t (.bl (neg ^^ eqTabB a b)) (.bl (neg ^^ eqTabB a b)) := .bl _
  cases neg with
  | false =>
    rw [Bool.false_xor] at dn
    exact dictsH_eq y1 y2 room dd1 dd2 (by omega) (fun _ => hh) (by rw [hl]; exact ⟨.bl _, H, I, rfl, q _ (by rw [Bool.false_xor]; exact dn)⟩)
  | true =>
    rw [Bool.true_xor] at dn
    exact dictsH_ne y1 y2 room dd1 dd2 (by omega) (fun _ => hh) (by rw [hl]; exact ⟨.bl _, H, I, rfl, q _ (by rw [Bool.true_xor]; exact dn)⟩)
end DL
end L2

set_option Elab.async false
set_option linter.all false
set_option maxRecDepth 100000
set_option maxHeartbeats 1000000
/-! loops and comprehensions over tables of both kinds. -/
namespace L2
namespace DL
open PySem PySem.Spec PyProof.Rows
section
variable {K : PySem.W.Frag} {mg : Str → Option Value} {H : Hp} {r t : List Addr} {p : Addr} {o u : HO} {od : Obj}
theorem DenL.unlockU (h : H p = some (.frz od u)) (hul : ∀ xs, u ≠ .lst xs) {ds : List D} {vs : List V} (z : DenL K H r t vs ds) : DenL K (upd H p o) r t vs ds :=
  DenL.off (fun xs e => by rw [h] at e; cases e) (fun xs e => by rw [h] at e; cases e) (fun ob xs e => by rw [h] at e; cases e; exact hul _ rfl) _ _ z
theorem Den.unlockU (h : H p = some (.frz od u)) (hul : ∀ xs, u ≠ .lst xs) {d : D} {v : V} (z : Den K H r t v d) : Den K (upd H p o) r t v d :=
  Den.off (fun xs e => by rw [h] at e; cases e) (fun xs e => by rw [h] at e; cases e) (fun ob xs e => by rw [h] at e; cases e; exact hul _ rfl) _ _ z
theorem SOk.unlockU {S : Sto} {n : Nat} {c0 c1 : Cell} (so : SOk K mg H r t S) (hn : r[n]? = some p) (hp : H p = some (.frz od u)) (hul : ∀ xs, u ≠ .lst xs) (hS : S[n]? = some c0) (hc : CellOk K mg (upd H p u) r t p c1) : SOk K mg (upd H p u) r t (S.set n c1) := by
  refine ⟨by rw [List.length_set]; exact so.len, so.nd, fun j a c h1 h2 => ?_, fun a ha => ⟨?_, (so.hid a ha).2⟩⟩
  · by_cases hj : n = j
    · subst hj
      have ea : p = a := Option.some.inj (hn.symm.trans h1)
      subst ea
      rw [List.getElem?_set_self (List.getElem?_eq_some_iff.mp hS).1] at h2
      have e2 := Option.some.inj h2
      subst e2
      exact hc
    · rw [List.getElem?_set_ne hj] at h2
      have ok := so.ok j a c h1 h2
      have na : a ≠ p := fun e => hj (nodup_get so.nd hn (by rw [← e]; exact h1))
      cases c with
      | lst ds => obtain ⟨xs, h3, h4⟩ := ok; exact ⟨xs, by rw [upd_ne na]; exact h3, DenL.unlockU hp hul h4⟩
      | dK ds => obtain ⟨xs, h3, h4⟩ := ok; exact ⟨xs, by rw [upd_ne na]; exact h3, h4.1, DenL.unlockU hp hul h4.2⟩
      | dT ds => obtain ⟨xs, h3, h4⟩ := ok; exact ⟨xs, by rw [upd_ne na]; exact h3, h4.1, DenL.unlockU hp hul h4.2⟩
      | ins c fs => obtain ⟨C, dx, qs, h3, h4, h5, h6⟩ := ok; exact ⟨C, dx, qs, by rw [upd_ne na]; exact h3, by rw [upd_ne (fun e => by subst e; rw [hp] at h4; cases h4)]; exact h4, h5, h6.1, DenL.unlockU hp hul h6.2⟩
      | exc c => obtain ⟨C, h3, h4⟩ := ok; exact ⟨C, h3, by rw [upd_ne na]; exact h4⟩
      | fK ds => obtain ⟨o', xs, h3, h4⟩ := ok; exact ⟨o', xs, by rw [upd_ne na]; exact h3, h4.1, DenL.unlockU hp hul h4.2⟩
      | fT ds => obtain ⟨o', xs, h3, h4⟩ := ok; exact ⟨o', xs, by rw [upd_ne na]; exact h3, h4.1, DenL.unlockU hp hul h4.2⟩
  · by_cases e : a = p
    · subst e; rw [upd_same]; exact fun z => nomatch z
    · rw [upd_ne e]; exact (so.hid a ha).1
theorem Ext.unlockU {r2 : List Addr} {H2 : Hp} (hH : H p = some u) (mu : Mut (some u)) (hp : p ∈ r) (e : Ext r (upd H p (.frz od u)) r2 H2) : Ext r H r2 (upd H2 p u) := by
  obtain ⟨nw, h1, h2⟩ := e.pre
  have ne : ∀ b v, H b = some v → ¬ Mut (some v) → b ≠ p := fun b v h q z => by rw [z, hH] at h; cases h; exact q mu
  refine ⟨⟨nw, h1, fun q hq => ?_⟩, fun b u h hb => ?_, fun b xs h => ?_, fun b ob u h => ?_, fun b x h => ?_, fun b h => ?_⟩
  · have z := h2 q hq
    by_cases c : q = p
    · rw [c, upd_same] at z; cases z
    · rw [upd_ne c] at z; exact z
  · have c : b ≠ p := fun z => hb (by rw [z]; exact hp)
    rw [upd_ne c]
    exact e.keep b u (by rw [upd_ne c]; exact h) hb
  · have c := ne b _ h (fun z => z)
    rw [upd_ne c]
    exact e.tups b xs (by rw [upd_ne c]; exact h)
  · have c := ne b _ h (fun z => z)
    rw [upd_ne c]
    exact e.frzs b ob u (by rw [upd_ne c]; exact h)
  · have c := ne b _ h (fun z => z)
    rw [upd_ne c]
    exact e.owns b x (by rw [upd_ne c]; exact h)
  · by_cases c : b = p
    · rw [c, upd_same]; exact fun z => nomatch z
    · rw [upd_ne c]
      exact e.there b (by rw [upd_ne c]; exact h)
theorem Rel.unlockU {S : Sto} {env : Ev} {σ : St} {n : Nat} {c0 c1 : Cell} (R : Rel K mg H r t S env σ) (hn : r[n]? = some p) (hp : H p = some (.frz od u)) (hul : ∀ xs, u ≠ .lst xs) (hS : S[n]? = some c0) (hc : CellOk K mg (upd H p u) r t p c1) : Rel K mg (upd H p u) r t (S.set n c1) env σ :=
  ⟨R.so.unlockU hn hp hul hS hc, R.len, fun i d h => let ⟨v, h1, h2⟩ := R.en i d h; ⟨v, h1, Den.unlockU hp hul h2⟩⟩
end
/-! ### for x in d -/
def keysD : Cell → Option (List D × Cell)
  | .dK kvs => some (kvs.map fun kv => kD kv.1, .fK kvs)
  | .dT kvs => some (kvs.map fun kv => .tup (kv.1.map kD), .fT kvs)
  | _ => none
def unC : Cell → Option Cell
  | .fK kvs => some (.dK kvs)
  | .fT kvs => some (.dT kvs)
  | _ => none
def kLock (n : Nat) (p : Fl × Ev) (S2 : Sto) : Out (Fl × Ev) := match (S2[n]?).bind unC with
  | some c1 => .ok p (S2.set n c1)
  | none => .bad
open Classical in
noncomputable def sForK (fe : DE) (g : DG) (b : DS) : DS := fun env S => match fe env S with
  | .ok (.ref n) _ => match (S[n]?).bind keysD with
    | some (ds, cl) => if fe env (S.set n cl) = .ok (.ref n) (S.set n cl) ∧ fe env S = .ok (.ref n) S then (noexc (forGo g b ds env (S.set n cl))).bind fun p S2 => kLock n p S2 else .bad
    | none => .bad
  | _ => .bad
theorem unC_ok {K : PySem.W.Frag} {mg : Str → Option Value} {H : Hp} {r t : List Addr} {p : Addr} {u : HO} {od : Obj} {c c1 : Cell} (h : CellOk K mg H r t p c) (hp : H p = some (.frz od u)) (hul : ∀ xs, u ≠ .lst xs) (e : unC c = some c1) : CellOk K mg (upd H p u) r t p c1 := by
  cases c with
  | fK kvs =>
    cases e
    obtain ⟨o', ps, h1, h2⟩ := h
    rw [hp] at h1
    cases h1
    exact ⟨ps, upd_same, h2.1, DenL.unlockU hp hul h2.2⟩
  | fT kvs =>
    cases e
    obtain ⟨o', ps, h1, h2⟩ := h
    rw [hp] at h1
    cases h1
    exact ⟨ps, upd_same, h2.1, DenL.unlockU hp hul h2.2⟩
  | _ => cases e
section
variable {X : Cx} {E : XK} {fe : DE} {gg : DG} {f : DS}
def FInvK (X : Cx) (E : XK) (Dn : Ends) (t r : List Addr) (H : Hp) (a : Addr) (od : Obj) (u : HO) (n : Nat) (gg : DG) (f : DS) (ds : List D) (σ2 : St) (H2 : Hp) : Prop :=
  ∃ r2 S2 env2, r2[n]? = some a ∧ H2 a = some (.frz od u) ∧ Ext r (upd H a (.frz od u)) r2 H2 ∧ Rel X.K X.mg H2 r2 t S2 env2 σ2 ∧
    Good X.K X.mg t (EC E) r2 H2 (forGo gg f ds env2 S2) fun p S3 _ _ => Good X.K X.mg t (EC E) r H (kLock n p S3) (RS X Dn t)
theorem forK_step {Dn : Ends} {r t : List Addr} {H : Hp} {a : Addr} {od : Obj} {u : HO} {n : Nat} {σ : St} {own : List Nat} {ds : List D} {J : It} (hH : H a = some u) (mu : Mut (some u)) (hul : ∀ xs, u ≠ .lst xs) (har : a ∈ r)
    (hgo : ∀ i H2, H2 a = some (.frz od u) → i < ds.length → J.go i H2) (hst : ∀ i H2, H2 a = some (.frz od u) → ds.length ≤ i → J.stop i H2)
    (hy : ∀ i H2 x H' r2 (h : i < ds.length), J.yld i H2 x H' → H' = H2 ∧ Den X.K H2 r2 t x ds[i])
    {H1 : Hp} (h0 : FInvK X E Dn t r H a od u n gg f ds σ H1) :
    ∃ W : Nat → Nat → St → Hp → Prop, (∃ m, W 0 m σ H1) ∧ ∀ i m σ H2, W i m σ H2 →
      (J.stop i H2 ∧ (H2 a = some (.frz od u) ∧ Dn.nx σ (upd H2 a u))) ∨ (J.go i H2 ∧ ∃ N : St → Hp → Prop, (∀ σ' H', N σ' H' → ∃ m', m' < m ∧ W (i + 1) m' σ' H') ∧ ∀ x H', J.yld i H2 x H' → tG X.K X.mg own gg x σ H' fun σ2 H2 =>
        tS X E f { (⟨fun σ' H' => H' a = some (.frz od u) ∧ Dn.nx σ' (upd H' a u), fun v H' => H' a = some (.frz od u) ∧ Dn.rt v (upd H' a u), fun σ' H' => H' a = some (.frz od u) ∧ Dn.bk σ' (upd H' a u), fun σ' H' => H' a = some (.frz od u) ∧ Dn.ct σ' (upd H' a u)⟩ : Ends) with nx := N, ct := N, bk := fun σ' H' => H' a = some (.frz od u) ∧ Dn.nx σ' (upd H' a u) } σ2 H2) := by
  -- what is told behind the loop
  have done : ∀ {p : Fl × Ev} {r4 : List Addr} {S4 : Sto} {H4 : Hp} {σ4 : St}, r4[n]? = some a → H4 a = some (.frz od u) → Ext r (upd H a (.frz od u)) r4 H4 → Rel X.K X.mg H4 r4 t S4 p.2 σ4 → Good X.K X.mg t (EC E) r H (kLock n p S4) (RS X Dn t) → H4 a = some (.frz od u) ∧ fin Dn X.K (upd H4 a u) r4 t p.1 σ4 := by
    intro p r4 S4 H4 σ4 hn4 hA4 ex4 rel4 g
    refine ⟨hA4, ?_⟩
    unfold kLock at g
    split at g
    · rename_i c1 hc1
      obtain ⟨c0, hc0, hu0⟩ := Option.bind_eq_some_iff.mp hc1
      have ck := unC_ok (rel4.so.ok n a c0 hn4 hc0) hA4 hul hu0
      have rel5 := rel4.unlockU hn4 hA4 hul hc0 ck
      exact g _ r4 (Ext.unlockU hH mu har ex4) rel5.so σ4 rel5
    · exact (show False from g).elim
  refine ⟨fun i m σ2 H2 => m = ds.length - i ∧ i ≤ ds.length ∧ FInvK X E Dn t r H a od u n gg f (ds.drop i) σ2 H2, ⟨ds.length, rfl, Nat.zero_le _, h0⟩, ?_⟩
  rintro i m σ2 H2 ⟨rfl, hi, r2, S2, env2, hn2, hA2, ex2, rel2, g2⟩
  by_cases hlt : i < ds.length
  · rw [List.drop_eq_getElem_cons hlt] at g2
    unfold forGo at g2
    cases hE : gg env2 ds[i] with
    | none => rw [hE] at g2; exact (show False from g2).elim
    | some env' =>
      rw [hE] at g2
      dsimp only at g2
      refine .inr ⟨hgo i H2 hA2 hlt, fun σ3 H3 => FInvK X E Dn t r H a od u n gg f (ds.drop (i + 1)) σ3 H3, fun σ' H' h => ⟨ds.length - (i + 1), by omega, rfl, hlt, h⟩, fun x H' y => ?_⟩
      obtain ⟨eH, dx⟩ := hy i H2 x H' r2 hlt y
      subst eH
      refine ⟨r2, t, S2, env2, ds[i], rel2, dx, env', hE, fun σ3 rel3 _ => ?_⟩
      refine ⟨r2, t, S2, env', rel3, g2.bind.mono fun p S4 r4 H4 ex4 so4 g4 σ4 rel4 => ?_⟩
      have hA4 := ex4.frzs _ _ _ hA2
      have hn4 := ex4.get hn2
      have ex24 := ex2.trans ex4
      obtain ⟨fl, env4⟩ := p
      cases fl with
      | nx => exact ⟨r4, S4, env4, hn4, hA4, ex24, rel4, g4⟩
      | ct => exact ⟨r4, S4, env4, hn4, hA4, ex24, rel4, g4⟩
      | bk => exact done (p := (.nx, env4)) hn4 hA4 ex24 rel4 (Good.here g4 so4)
      | rt d =>
        have q := done (p := (.rt d, env4)) hn4 hA4 ex24 rel4 (Good.here g4 so4)
        exact fun v dv => ⟨hA4, q.2 v (Den.unlockU hA4 hul dv)⟩
  · have e : i = ds.length := by omega
    subst e
    rw [List.drop_length] at g2
    exact .inl ⟨hst _ H2 hA2 (Nat.le_refl _), done (p := (.nx, env2)) hn2 hA2 ex2 rel2 (Good.here g2 rel2.so)⟩
open Classical in
theorem ds_forK {tg iter : Expr} {body : List Stmt} {own : List Nat} {pos : Pos} (hp : PassesOwn (model X.prog X.w) X.A X.env X.xe) (hc : X.calm = true) (he : PE X iter (tE X (WC E) fe)) (hg : PG X tg (tG X.K X.mg own gg)) (hb : PSs X body (tS X E f))
    (hs : ∀ x, foldedSetIterable iter X.env x = pure x := by intro _; rfl) : PS X (.For tg iter body [] pos) (tS X E (sForK fe gg f)) := by
  refine PS.imp (ps_lock (ps_for hp hc (pi_keys he) hg hb hs)) fun Dn σ H q => ?_
  obtain ⟨r, t, S, env, rel, g0⟩ := q
  unfold sForK at g0
  split at g0
  case h_2 => exact (show False from g0).elim
  rename_i n S' hfe
  split at g0
  case h_2 => exact (show False from g0).elim
  rename_i ds cl hk
  obtain ⟨⟨hf1, hf2⟩, g1⟩ := g0.ite
  obtain ⟨c, hc0, hkd⟩ := Option.bind_eq_some_iff.mp hk
  have hnlt := (List.getElem?_eq_some_iff.mp hc0).1
  obtain ⟨a, hn⟩ : ∃ a, r[n]? = some a := ⟨_, List.getElem?_eq_getElem (by rw [rel.so.len]; exact hnlt)⟩
  have har : a ∈ r := List.mem_of_getElem? hn
  have ok := rel.so.ok n a c hn hc0
  cases c with
  | dK kvs =>
    cases hkd
    obtain ⟨ps, hH, z⟩ := ok
    refine ⟨a, .dK ps, hH, trivial, fun od => ?_⟩
    have exl : Ext r H r (upd H a (.frz od (.dK ps))) := Ext.write hH trivial har
    have sol : SOk X.K X.mg (upd H a (.frz od (.dK ps))) r t (S.set n (.fK kvs)) := rel.so.write (o := .frz od (.dK ps)) hn hH trivial ⟨od, ps, upd_same, DenP.ext exl z⟩
    have rell := rel.ext exl sol
    have hlen : ps.length = kvs.length := z.len
    refine ⟨r, t, S.set n (.fK kvs), env, rell, ?_⟩
    rw [hf1]
    intro H1 r1 ex1 so1 v dv
    cases dv with
    | @ref a' _ hn' =>
    have hn1 := ex1.get hn
    have ea : a' = a := Option.some.inj (hn'.symm.trans hn1)
    subst ea
    have hA1 := ex1.frzs _ _ _ upd_same
    have hkl : (kvs.map fun kv => kD kv.1).length = kvs.length := List.length_map _
    refine ⟨a', od, rfl, .inl ⟨ps, hA1, ?_⟩⟩
    refine forK_step (J := Itk a' od ps) (u := .dK ps) (ds := kvs.map fun kv => kD kv.1) hH trivial (fun xs => fun z => nomatch z) har (fun i H2 hA hi => ⟨hA, by rw [hlen, ← hkl]; exact hi⟩) (fun i H2 hA hi => ⟨hA, by rw [hlen, ← hkl]; exact hi⟩) (fun i H2 x H' r2 hi y => ?_) ⟨r1, _, env, hn1, hA1, ex1, rell.ext ex1 so1, Good.split g1⟩
    obtain ⟨eH, k, w, hk2, ex⟩ := y
    refine ⟨eH, ?_⟩
    subst ex
    have hi' : i < kvs.length := by rw [← hkl]; exact hi
    have hpi : ps[i]?.map (·.1) = kvs[i]?.map (·.1) := by rw [← List.getElem?_map, ← List.getElem?_map, z.1]
    have ek : k = kvs[i].1 := by
      rw [hk2, List.getElem?_eq_getElem hi'] at hpi
      exact Option.some.inj hpi
    subst ek
    rw [List.getElem_map]
    exact kD_den _
  | dT kvs =>
    cases hkd
    obtain ⟨ps, hH, z⟩ := ok
    refine ⟨a, .dT ps, hH, trivial, fun od => ?_⟩
    have exl : Ext r H r (upd H a (.frz od (.dT ps))) := Ext.write hH trivial har
    have sol : SOk X.K X.mg (upd H a (.frz od (.dT ps))) r t (S.set n (.fT kvs)) := rel.so.write (o := .frz od (.dT ps)) hn hH trivial ⟨od, ps, upd_same, DenP.ext exl z⟩
    have rell := rel.ext exl sol
    have hlen : ps.length = kvs.length := z.len
    refine ⟨r, t, S.set n (.fT kvs), env, rell, ?_⟩
    rw [hf1]
    intro H1 r1 ex1 so1 v dv
    cases dv with
    | @ref a' _ hn' =>
    have hn1 := ex1.get hn
    have ea : a' = a := Option.some.inj (hn'.symm.trans hn1)
    subst ea
    have hA1 := ex1.frzs _ _ _ upd_same
    have hkl : (kvs.map fun kv => D.tup (kv.1.map kD)).length = kvs.length := List.length_map _
    refine ⟨a', od, rfl, .inr ⟨ps, hA1, ?_⟩⟩
    refine forK_step (J := Itkt a' od ps) (u := .dT ps) (ds := kvs.map fun kv => D.tup (kv.1.map kD)) hH trivial (fun xs => fun z => nomatch z) har (fun i H2 hA hi => ⟨hA, by rw [hlen, ← hkl]; exact hi⟩) (fun i H2 hA hi => ⟨hA, by rw [hlen, ← hkl]; exact hi⟩) (fun i H2 x H' r2 hi y => ?_) ⟨r1, _, env, hn1, hA1, ex1, rell.ext ex1 so1, Good.split g1⟩
    obtain ⟨eH, k, w, q, hk2, ex, hq⟩ := y
    refine ⟨eH, ?_⟩
    subst ex
    have hi' : i < kvs.length := by rw [← hkl]; exact hi
    have hpi : ps[i]?.map (·.1) = kvs[i]?.map (·.1) := by rw [← List.getElem?_map, ← List.getElem?_map, z.1]
    have ek : k = kvs[i].1 := by
      rw [hk2, List.getElem?_eq_getElem hi'] at hpi
      exact Option.some.inj hpi
    subst ek
    rw [List.getElem_map]
    exact .tup hq (kDL_den _)
  | _ => cases hkd
end
/-! ### [.. for x in d] -/
def kLockD (n : Nat) (acc : List D) (S2 : Sto) : Out D := match (S2[n]?).bind unC with
  | some c1 => .ok (.lst acc) (S2.set n c1)
  | none => .bad
open Classical in
noncomputable def dCompD (fe : DE) (g : DG) (vs : List Nat) (tt : DB) (te : DE) : DE := fun env S => match fe env S with
  | .ok (.ref n) _ => match (S[n]?).bind keysD with
    | some (ds, cl) => if fe env (S.set n cl) = .ok (.ref n) (S.set n cl) ∧ fe env S = .ok (.ref n) S then (compGo g (wipeE env vs) tt te ds [] (S.set n cl)).bind fun acc S2 => kLockD n acc S2 else .bad
    | none => .bad
  | _ => .bad
section
variable {X : Cx} {W : WX} {tg iter elt : Expr} {fe : DE} {g : DG} {tt : DB} {te : DE} {scope : Scope} {own : List (Str × Nat)} {go : List Nat} {ifs : List Expr} {pos : Pos} {σ : St} {H : Hp} {Q : VK}
def CInvD (X : Cx) (W : WX) (n : Nat) (a : Addr) (od : Obj) (u : HO) (g : DG) (vs : List Nat) (tt : DB) (te : DE) (σ : St) (Q : VK) (env : Ev) (t r : List Addr) (H : Hp) (p : Addr) (ds : List D) (H2 : Hp) : Prop :=
  ∃ r2 S2 acc accV, r2[n]? = some a ∧ H2 a = some (.frz od u) ∧ H2 p = some (.lst accV) ∧ DenL X.K H2 r2 (p :: t) accV acc ∧ Rel X.K X.mg H2 r2 (p :: t) S2 (wipeE env vs) (wipe σ vs) ∧ Ext r (upd H a (.frz od u)) r2 H2 ∧
      Good X.K X.mg t (EW W σ) r H ((compGo g (wipeE env vs) tt te ds acc S2).bind fun acc S2 => kLockD n acc S2) fun d _ r' H' => ∀ v, Den X.K H' r' t v d → Q v H'
theorem lcD_step {t r r1 : List Addr} {a : Addr} {od : Obj} {u : HO} {n : Nat} {cl : Cell} {env : Ev} {S1 : Sto} {ds : List D} {J : It} {vs : List Nat} {H1 : Hp} (hgo : ∀ i ∈ go, i ∈ vs) (hH : H a = some u) (mu : Mut (some u)) (hul : ∀ xs, u ≠ .lst xs) (har : a ∈ r)
    (hgoJ : ∀ i H2, H2 a = some (.frz od u) → i < ds.length → J.go i H2) (hst : ∀ i H2, H2 a = some (.frz od u) → ds.length ≤ i → J.stop i H2)
    (hy : ∀ i H2 x H' r2 t2 (h : i < ds.length), J.yld i H2 x H' → H' = H2 ∧ Den X.K H2 r2 t2 x ds[i])
    (hn1 : r1[n]? = some a) (hA1 : H1 a = some (.frz od u)) (ex1 : Ext r (upd H a (.frz od u)) r1 H1) (rel1 : Rel X.K X.mg H1 r1 t S1 env σ)
    (g0 : Good X.K X.mg t (EW W σ) r H ((compGo g (wipeE env vs) tt te ds [] S1).bind fun acc S2 => kLockD n acc S2) fun d _ r' H' => ∀ v, Den X.K H' r' t v d → Q v H') (p : Addr) (hpn : H1 p = none) :
    ∃ W2 : Nat → Nat → Hp → Prop, (∃ m, W2 0 m (upd H1 p (.lst []))) ∧ ∀ i m H2, W2 i m H2 →
      (J.stop i H2 ∧ H2 a = some (.frz od u) ∧ Q (.ref p) (upd H2 a u)) ∨ (J.go i H2 ∧ ∃ N : Hp → Prop, (∀ H', N H' → ∃ m', m' < m ∧ W2 (i + 1) m' H') ∧ ∀ x H', J.yld i H2 x H' → tG X.K X.mg go g x (wipe σ vs) H' fun σ2 H3 => wipe σ2 vs = wipe σ vs ∧
        tB' X W0 tt σ2 H3 fun k H4 => if k = true then tE X W0 te σ2 H4 fun y H5 => ∃ accV, H5 p = some (.lst accV) ∧ accV.length < sizeLine ∧ N (upd H5 p (.lst (accV ++ [y]))) else N H4) := by
  have nn := notinNew rel1.so hpn
  have hp0 : upd H a (.frz od u) p = none := Classical.byContradiction fun h => ex1.there p h hpn
  refine ⟨fun i m H2 => m = ds.length - i ∧ i ≤ ds.length ∧ CInvD X W n a od u g vs tt te σ Q env t r H p (ds.drop i) H2,
    ⟨ds.length, rfl, Nat.zero_le _, r1, S1, [], [], hn1, by rw [upd_ne (fun e => by rw [← e, hA1] at hpn; cases hpn)]; exact hA1, upd_same, .nil, (rel1.hide hpn).wipes vs, ex1.trans (Ext.new hpn), g0⟩, ?_⟩
  rintro i m H2 ⟨rfl, hi, r2, S2, acc, accV, hn2, hA2, hD2, dacc, rel2, ex2, g2⟩
  have nD : p ∉ r2 := (rel2.so.hid p List.mem_cons_self).2
  by_cases hlt : i < ds.length
  · rw [List.drop_eq_getElem_cons hlt] at g2
    unfold compGo at g2
    cases hE : g (wipeE env vs) ds[i] with
    | none => rw [hE] at g2; exact (show False from g2).elim
    | some env' =>
      rw [hE] at g2
      dsimp only at g2
      rw [Out.bind_assoc] at g2
      refine .inr ⟨hgoJ i H2 hA2 hlt, fun H3 => CInvD X W n a od u g vs tt te σ Q env t r H p (ds.drop (i + 1)) H3, fun H' h => ⟨ds.length - (i + 1), by omega, rfl, hlt, h⟩, fun x H' y => ?_⟩
      obtain ⟨eH, dx⟩ := hy i H2 x H' r2 (p :: t) hlt y
      subst eH
      refine ⟨r2, p :: t, S2, wipeE env vs, ds[i], rel2, dx, env', hE, fun σ2 relS off => ⟨wipe_back off hgo, ?_⟩⟩
      refine ⟨r2, p :: t, S2, env', relS, (Good.split g2).mono fun b S3 r3 H3 ex3 so3 g3 => ?_⟩
      have hD3 : H3 p = some (.lst accV) := ex3.keep p _ hD2 nD
      have hA3 := ex3.frzs _ _ _ hA2
      have rel3 := rel2.ext ex3 so3
      have nD3 : p ∉ r3 := (so3.hid p List.mem_cons_self).2
      cases b with
      | false => exact iteF ⟨r3, S3, acc, accV, ex3.get hn2, hA3, hD3, DenL.ext ex3 _ _ dacc, rel3, ex2.trans ex3, g3⟩
      | true =>
        refine iteT ?_
        have g3' := g3
        rw [if_pos rfl, Out.bind_assoc] at g3'
        refine ⟨r3, p :: t, S3, env', relS.ext ex3 so3, (Good.split g3').mono fun y S4 r4 H4 ex4 so4 g4 yv dyv => ?_⟩
        have hD4 : H4 p = some (.lst accV) := ex4.keep p _ hD3 nD3
        have hA4 := ex4.frzs _ _ _ hA3
        have hz : acc.length < sizeLine ∧ Good X.K X.mg t (EW W σ) r H ((compGo g (wipeE env vs) tt te (ds.drop (i + 1)) (acc ++ [y]) S4).bind fun acc S2 => kLockD n acc S2) (fun d _ r' H' => ∀ v, Den X.K H' r' t v d → Q v H') := by
          by_cases hz : acc.length < sizeLine
          · rw [if_pos hz] at g4; exact ⟨hz, g4⟩
          · rw [if_neg hz] at g4; exact (show False from g4).elim
        have exB := ex3.trans ex4
        have hT : ∀ ys, H4 p ≠ some (.tup ys) := fun ys e => by rw [hD4] at e; cases e
        have hF : ∀ ob u, H4 p ≠ some (.frz ob u) := fun ob u e => by rw [hD4] at e; cases e
        have mD : p ∈ p :: t := List.mem_cons_self
        exact ⟨accV, hD4, by rw [dacc.length]; exact hz.1, r4, S4, acc ++ [y], accV ++ [yv], exB.get hn2, by rw [upd_ne (fun e => by rw [e, hD4] at hA4; cases hA4)]; exact hA4, upd_same, DenL.over mD hT hF _ _ ((DenL.ext exB _ _ dacc).append (.cons dyv .nil)), (rel3.ext ex4 so4).over mD hD4, (ex2.trans exB).overNew hp0, hz.2⟩
  · have e : i = ds.length := by omega
    subst e
    rw [List.drop_length] at g2
    have g2' : Good X.K X.mg t (EW W σ) r H (kLockD n acc S2) fun d _ r' H' => ∀ v, Den X.K H' r' t v d → Q v H' := g2
    unfold kLockD at g2'
    split at g2'
    case h_2 => exact (show False from g2').elim
    rename_i c1 hc1
    obtain ⟨c0, hc0, hu0⟩ := Option.bind_eq_some_iff.mp hc1
    have sub : ∀ a ∈ t, a ∈ p :: t := fun a ha => List.mem_cons_of_mem _ ha
    have sol2 := rel2.so.less sub
    have ck := unC_ok (sol2.ok n a c0 hn2 hc0) hA2 hul hu0
    have so3 := sol2.unlockU hn2 hA2 hul hc0 ck
    have ex3 : Ext r H r2 (upd H2 a u) := Ext.unlockU hH mu har ex2
    refine .inl ⟨hst _ H2 hA2 (Nat.le_refl _), hA2, ?_⟩
    refine g2' _ r2 ex3 so3 _ (.lst (by rw [upd_ne (fun e => by rw [e, hA2] at hD2; cases hD2)]; exact hD2) nD nn.2 (DenL.unlockU hA2 hul (DenL.less sub _ _ dacc)))
open Classical in
theorem tLcD_of {vs : List Nat} (hgo : ∀ i ∈ go, i ∈ vs) (q : tE X W (dCompD fe g vs tt te) σ H Q) : tLockE (tLc (iKeys (tE X W fe)) (tG X.K X.mg go g) (tB' X W0 tt) (tE X W0 te) vs) σ H Q := by
  obtain ⟨r, t, S, env, rel, g0⟩ := q
  unfold dCompD at g0
  split at g0
  case h_2 => exact (show False from g0).elim
  rename_i n S' hfe
  split at g0
  case h_2 => exact (show False from g0).elim
  rename_i ds cl hk
  obtain ⟨⟨hf1, hf2⟩, g1⟩ := g0.ite
  obtain ⟨c, hc0, hkd⟩ := Option.bind_eq_some_iff.mp hk
  have hnlt := (List.getElem?_eq_some_iff.mp hc0).1
  obtain ⟨a, hn⟩ : ∃ a, r[n]? = some a := ⟨_, List.getElem?_eq_getElem (by rw [rel.so.len]; exact hnlt)⟩
  have har : a ∈ r := List.mem_of_getElem? hn
  have ok := rel.so.ok n a c hn hc0
  cases c with
  | dK kvs =>
    cases hkd
    obtain ⟨ps, hH, z⟩ := ok
    refine ⟨a, .dK ps, hH, trivial, fun od => ?_⟩
    have exl : Ext r H r (upd H a (.frz od (.dK ps))) := Ext.write hH trivial har
    have sol : SOk X.K X.mg (upd H a (.frz od (.dK ps))) r t (S.set n (.fK kvs)) := rel.so.write (o := .frz od (.dK ps)) hn hH trivial ⟨od, ps, upd_same, DenP.ext exl z⟩
    have rell := rel.ext exl sol
    have hlen : ps.length = kvs.length := z.len
    refine ⟨r, t, S.set n (.fK kvs), env, rell, ?_⟩
    rw [hf1]
    intro H1 r1 ex1 so1 v dv
    cases dv with
    | @ref a' _ hn' =>
    have hn1 := ex1.get hn
    have ea : a' = a := Option.some.inj (hn'.symm.trans hn1)
    subst ea
    have hA1 := ex1.frzs _ _ _ upd_same
    have hkl : (kvs.map fun kv => kD kv.1).length = kvs.length := List.length_map _
    refine ⟨a', od, rfl, .inl ⟨ps, hA1, fun p hpn => ?_⟩⟩
    exact lcD_step (J := Itk a' od ps) (u := .dK ps) (cl := .fK kvs) (ds := kvs.map fun kv => kD kv.1) hgo hH trivial (fun xs => fun z => nomatch z) har (fun i H2 hA hi => ⟨hA, by rw [hlen, ← hkl]; exact hi⟩) (fun i H2 hA hi => ⟨hA, by rw [hlen, ← hkl]; exact hi⟩) (fun i H2 x H' r2 t2 hi y => by
        obtain ⟨eH, k, w, hk2, ex⟩ := y
        refine ⟨eH, ?_⟩
        subst ex
        have hi' : i < kvs.length := by rw [← hkl]; exact hi
        have hpi : ps[i]?.map (·.1) = kvs[i]?.map (·.1) := by rw [← List.getElem?_map, ← List.getElem?_map, z.1]
        have ek : k = kvs[i].1 := by
          rw [hk2, List.getElem?_eq_getElem hi'] at hpi
          exact Option.some.inj hpi
        subst ek
        rw [List.getElem_map]
        exact kD_den _) hn1 hA1 ex1 (rell.ext ex1 so1) g1 p hpn
  | dT kvs =>
    cases hkd
    obtain ⟨ps, hH, z⟩ := ok
    refine ⟨a, .dT ps, hH, trivial, fun od => ?_⟩
    have exl : Ext r H r (upd H a (.frz od (.dT ps))) := Ext.write hH trivial har
    have sol : SOk X.K X.mg (upd H a (.frz od (.dT ps))) r t (S.set n (.fT kvs)) := rel.so.write (o := .frz od (.dT ps)) hn hH trivial ⟨od, ps, upd_same, DenP.ext exl z⟩
    have rell := rel.ext exl sol
    have hlen : ps.length = kvs.length := z.len
    refine ⟨r, t, S.set n (.fT kvs), env, rell, ?_⟩
    rw [hf1]
    intro H1 r1 ex1 so1 v dv
    cases dv with
    | @ref a' _ hn' =>
    have hn1 := ex1.get hn
    have ea : a' = a := Option.some.inj (hn'.symm.trans hn1)
    subst ea
    have hA1 := ex1.frzs _ _ _ upd_same
    have hkl : (kvs.map fun kv => D.tup (kv.1.map kD)).length = kvs.length := List.length_map _
    refine ⟨a', od, rfl, .inr ⟨ps, hA1, fun p hpn => ?_⟩⟩
    exact lcD_step (J := Itkt a' od ps) (u := .dT ps) (cl := .fT kvs) (ds := kvs.map fun kv => D.tup (kv.1.map kD)) hgo hH trivial (fun xs => fun z => nomatch z) har (fun i H2 hA hi => ⟨hA, by rw [hlen, ← hkl]; exact hi⟩) (fun i H2 hA hi => ⟨hA, by rw [hlen, ← hkl]; exact hi⟩) (fun i H2 x H' r2 t2 hi y => by
        obtain ⟨eH, k, w, q, hk2, ex, hq⟩ := y
        refine ⟨eH, ?_⟩
        subst ex
        have hi' : i < kvs.length := by rw [← hkl]; exact hi
        have hpi : ps[i]?.map (·.1) = kvs[i]?.map (·.1) := by rw [← List.getElem?_map, ← List.getElem?_map, z.1]
        have ek : k = kvs[i].1 := by
          rw [hk2, List.getElem?_eq_getElem hi'] at hpi
          exact Option.some.inj hpi
        subst ek
        rw [List.getElem_map]
        exact .tup hq (kDL_den _)) hn1 hA1 ex1 (rell.ext ex1 so1) g1 p hpn
  | _ => cases hkd
theorem de_compD (hc : X.calm = true) (hN : X.N.Nodup) (hi : PE X iter (tE X W fe)) (ok : BlkOk X.N X.env.scope scope own) (hgo : ∀ i ∈ go, i ∈ own.map (·.2))
    (hg : ∀ (s : Shared) (H : Hp) (C : Addr) (cl : List (Str × Addr)) (fp : List Addr), PG (X.blk s H scope (compEnvC scope cl C X.env) fp) tg (tG X.K X.mg go g)) (ht : ∀ (s : Shared) (H : Hp) (C : Addr) (cl : List (Str × Addr)) (fp : List Addr), PTs (X.blk s H scope (compEnvC scope cl C X.env) fp) ifs (tB' X W0 tt))
    (he : ∀ (s : Shared) (H : Hp) (C : Addr) (cl : List (Str × Addr)) (fp : List Addr), PE (X.blk s H scope (compEnvC scope cl C X.env) fp) elt (tE X W0 te)) (hs : ∀ y, foldedSetIterable iter X.env y = pure y := by intro _; rfl) :
    PE X (.ListComp elt [⟨tg, iter, ifs, 0⟩] scope pos) (tE X W (dCompD fe g (own.map (·.2)) tt te)) :=
  PE.imp (pe_lock (pe_lc hc hN (pi_keys hi) ok hg ht he hs)) fun _ _ _ q => tLcD_of hgo q
theorem ds_setLcD (i : Nat) {E : XK} {y : Str} {py : Pos} {spos : Pos} (hc : X.calm = true) (hN : X.N.Nodup)
    (hsw : swapsWith (.ListComp elt [⟨tg, iter, ifs, 0⟩] scope pos) (some (.Name y py)) spos.line X.env = pure true) (hi : PE X iter (tE X (WC E) fe)) (ok : BlkOk X.N X.env.scope scope own) (hgo : ∀ i ∈ go, i ∈ own.map (·.2))
    (hg : ∀ (s : Shared) (H : Hp) (C : Addr) (cl : List (Str × Addr)) (fp : List Addr), PG (X.blk s H scope (compEnvC scope cl C X.env) fp) tg (tG X.K X.mg go g)) (ht : ∀ (s : Shared) (H : Hp) (C : Addr) (cl : List (Str × Addr)) (fp : List Addr), PTs (X.blk s H scope (compEnvC scope cl C X.env) fp) ifs (tB' X W0 tt))
    (he : ∀ (s : Shared) (H : Hp) (C : Addr) (cl : List (Str × Addr)) (fp : List Addr), PE (X.blk s H scope (compEnvC scope cl C X.env) fp) elt (tE X W0 te)) (hy : X.N[i]? = some y := by rfl) (hyl : X.env.scope.names.lookup y = some .local := by rfl) (hs : ∀ z, foldedSetIterable iter X.env z = pure z := by intro _; rfl) :
    PS X (.Assign [.Name y py] (.ListComp elt [⟨tg, iter, ifs, 0⟩] scope pos) spos) (tS X E (sSet i (dCompD fe g (own.map (·.2)) tt te))) := by
  refine PS.imp (ps_lock (ps_setLc hc hN hy hyl hsw (pi_keys hi) ok hg ht he hs)) fun D σ H q => ?_
  obtain ⟨r, t, S, env, rel, g0⟩ := q
  obtain ⟨d, u, h1, h2, h3⟩ := tLcD_of (W := WC E) hgo ⟨r, t, S, env, rel, g0.bind.mono fun d S1 r1 H1 ex so g1 v dv => Good.here g1 so _ ((rel.ext ex so).set i dv)⟩
  exact ⟨d, u, h1, h2, h3⟩
end
/-! ### their rules -/
section
variable {n : Nat} {ds : List DL.D} {cl : Cell} {env : Ev} {S : Sto} {fe : DE} {g : DG}
open Classical in
theorem w_ForK {b : DS} {PF : Fl × Ev → Sto → Prop} (hf : fe env S = .ok (.ref n) S) (hf2 : fe env (S.set n cl) = .ok (.ref n) (S.set n cl)) (hk : (S[n]?).bind keysD = some (ds, cl))
    (h : Wp (forGo g b ds env (S.set n cl)) fun p S2 => ∃ c0 c1, S2[n]? = some c0 ∧ unC c0 = some c1 ∧ PF p (S2.set n c1)) : Wp (sForK fe g b env S) PF := by
  unfold sForK
  rw [hf]
  dsimp only
  rw [hk]
  dsimp only
  rw [if_pos ⟨hf2, rfl⟩, wp_bind, wp_noexc]
  refine h.mono fun p S2 q => ?_
  obtain ⟨c0, c1, e0, e1, q⟩ := q
  unfold kLock
  rw [e0, Option.bind_some, e1]
  exact Wp.of rfl q
open Classical in
theorem w_CompD {vs : List Nat} {tt : DB} {te : DE} {P : DL.D → Sto → Prop} (hf : fe env S = .ok (.ref n) S) (hf2 : fe env (S.set n cl) = .ok (.ref n) (S.set n cl)) (hk : (S[n]?).bind keysD = some (ds, cl))
    (h : Wp (compGo g (wipeE env vs) tt te ds [] (S.set n cl)) fun acc S2 => ∃ c0 c1, S2[n]? = some c0 ∧ unC c0 = some c1 ∧ P (.lst acc) (S2.set n c1)) : Wp (dCompD fe g vs tt te env S) P := by
  unfold dCompD
  rw [hf]
  dsimp only
  rw [hk]
  dsimp only
  rw [if_pos ⟨hf2, rfl⟩, wp_bind]
  refine h.mono fun acc S2 q => ?_
  obtain ⟨c0, c1, e0, e1, q⟩ := q
  unfold kLockD
  rw [e0, Option.bind_some, e1]
  exact Wp.of rfl q
end
end DL
end L2

set_option Elab.async false
set_option linter.all false
set_option maxRecDepth 100000
set_option maxHeartbeats 1000000
/-! tables: clear, the values walked. -/
namespace L2
open PySem PySem.Spec PyProof.Rows
/-- the values, tuple keys -/
def Itdt (d : Addr) (o : Obj) (kvs : List (List Key × V)) : It :=
  ⟨fun i H => H d = some (.frz o (.dT kvs)) ∧ i < kvs.length, fun i H x H' => H' = H ∧ ∃ k, kvs[i]? = some (k, x), fun i H => H d = some (.frz o (.dT kvs)) ∧ kvs.length ≤ i⟩
section
variable {X : Cx} {pins : List (Addr × Obj)} {σ : St} {H : Hp} {s : Shared} {d : Addr} {o : Obj}
theorem Inv.frzTv {kvs : List (List Key × V)} (I : Inv X pins σ H s) (h : H d = some (.frz o (.dT kvs))) :
    (d == sysModules) = false ∧ s.heap.get? d = some o ∧ o.ExactDict ∧ ∃ (es : Array DictEntry) (ep : Nat), o.data = .dict es ep ∧ es.size = kvs.length ∧
      ∀ (i : Nat) (k : List Key) (v : V), kvs[i]? = some (k, v) → ∃ en : DictEntry, es[i]? = some en ∧ RelV v en.val := by
  obtain ⟨hd, z, hs, xs, pr, o', es, ep, ho, hx, hdt, he, _⟩ := I.hok d _ h
  rw [hd] at ho
  cases ho
  refine ⟨hs, hd, hx, es, ep, hdt, ?_, fun i k v e => ?_⟩
  · have l1 : es.size = xs.length := size_of_entries he
    have l2 : kvs.length = xs.length := Paired.length pr
    omega
  · obtain ⟨b, hb, e1, e2, e3⟩ := paired_get pr e
    have q := entry_at he i
    rw [hb] at q
    exact ⟨_, q, e3⟩
end
section
variable {P : Program} {w : World} {K : PySem.W.Frag} {tg : Expr} {d : Addr} {o : Obj} {es : Array DictEntry} {ep : Nat}
theorem turn_valsT {kvs : List (List Key × V)} (it : Addr) (hod : o.data = .dict es ep) : Turn P w K tg (Itdt d o kvs) [it] it (fun i h => h.IsValIter it d i kvs.length ep) where
  mem := by simp
  obj := fun i h st b hb => by
    have e : b = it := by simpa using hb
    subst e
    obtain ⟨oi, e, c, dd⟩ := st
    exact ⟨oi, e, fun v z => by rw [dd] at z; cases z⟩
  keep := fun i h h' st k => st.at fun oi e => k it (by simp) oi e
  item := by
    intro X hP hw hK hc i pins s σ H E I hf st hg
    subst hP hw hK
    obtain ⟨hd, hi⟩ := hg
    obtain ⟨f0, f1, f2, f3, f4, f5⟩ := hf it (by simp)
    obtain ⟨hs, hgd, hx, es', ep', hdt, hsz, ent⟩ := I.frzTv hd
    obtain ⟨rfl, rfl⟩ := dict_ep hod hdt
    obtain ⟨⟨k, v⟩, hkv⟩ : ∃ p, kvs[i]? = some p := ⟨kvs[i], List.getElem?_eq_getElem hi⟩
    obtain ⟨en, hen, ru⟩ := ent i k v hkv
    rw [← hsz] at st
    have hlt : i < es'.size := by rw [hsz]; exact hi
    refine PySem.wpAny_pyNext_values_item_raw st ⟨o, hgd, hx, hdt⟩ hlt fun h' st' sb => ?_
    have I1 : Inv X pins σ H { s with heap := h' } := I.turned (t' := s.toks) (fun b ob hb e => (sb.2 b hb).trans e) f0 f1 f3 f4 f5
    have hv : es'[i].val = en.val := by
      rw [Array.getElem?_eq_getElem hlt] at hen
      rw [Option.some.inj hen]
    obtain ⟨oi, e, c, dd⟩ := id st'
    refine ⟨_, rfl, go_of (s := { s with heap := h' }) e c dd (by decide) ⟨v, H, I1, by rw [hv]; exact ru, ⟨rfl, k, hkv⟩, ?_, fun b hb => (hf b hb).1⟩⟩
    show h'.IsValIter it d (i + 1) kvs.length _
    rw [← hsz]
    exact st'
  done := by
    intro X hP hw hK hc i pins s σ H E I hf st hg
    subst hP hw hK
    obtain ⟨hd, hi⟩ := hg
    obtain ⟨f0, f1, f2, f3, f4, f5⟩ := hf it (by simp)
    obtain ⟨hs, hgd, hx, es', ep', hdt, hsz, ent⟩ := I.frzTv hd
    obtain ⟨rfl, rfl⟩ := dict_ep hod hdt
    rw [← hsz] at st
    exact PySem.wpAny_pyNext_values_end_raw (I.ok.hd hc) st ⟨o, hgd, hx, hdt⟩ (by rw [hsz]; exact hi) fun h' eb => ⟨rfl, I.turned (t' := s.toks) (fun b ob hb e => eb b ob hb e) f0 f1 f3 f4 f5⟩
  self := fun A i s Q E st h => wpAny_pyIter_valiter st h
end
/-- the dict is locked for good -/
def iValsL (td : TE) : TI := fun σ H R => td σ H fun x H1 => ∃ d u, x = .ref d ∧ H1 d = some u ∧ ((∃ kvs, u = .dK kvs ∧ ∀ o, R (Itd d o kvs) (upd H1 d (.frz o u))) ∨ ∃ kvs, u = .dT kvs ∧ ∀ o, R (Itdt d o kvs) (upd H1 d (.frz o u)))
theorem pi_valsL {X : Cx} {tg e : Expr} {td : TE} {apos cpos : Pos} (he : PE X e td) (hbase : attributeBase e "values" X.env (eval e X.env) = eval e X.env := by rfl) (hline : (apos.endLine == cpos.line) = true := by rfl) : PI X tg (.Call (.Attribute e "values" apos) [] [] cpos) (iValsL td) := by
  refine ⟨fun pins s σ H R I h => ?_⟩
  refine wpAny_Call_method (T := "dict") (id := "dict.values") hbase rfl hline PySem.F.plainAttrs_dict PySem.F.slot_dict_values PySem.F.type_dict_values (thn (he.run pins s σ H _ I h) fun u s1 ⟨x, H1, I1, rx, d, ob, ex, hd, q⟩ => ?_)
  subst ex
  obtain rfl : u = Value.ref d := rx
  rcases q with ⟨kvs, eu, q⟩ | ⟨kvs, eu, q⟩
  · subst eu
    obtain ⟨od, IL⟩ := I1.lock hd trivial
    have q' := q od
    have hdL : upd H1 d (.frz od (.dK kvs)) d = some (.frz od (.dK kvs)) := upd_same
    obtain ⟨hs, hgd, hx, es, ep, vs, hdt, hsz, kv, hm⟩ := IL.frzK hdL
    have hl : kvs.length = vs.length := Paired.length kv
    refine ⟨hm.dictOf.typeIs, hm.dictOf.mapOf.noDict, ?_⟩
    have I2 : Inv X pins σ (upd H1 d (.frz od (.dK kvs))) { s1 with heap := s1.heap.push { cls := .type "dict_values", data := .fields #[.ref d] } } := IL.kept (t' := s1.toks) fun b ob q => Heap.get?_push_of_some _ q
    have fin : wpAny (model X.prog X.w) X.A (pyIter (.ref s1.heap.objs.size)) (PIE X pins σ tg R) X.xe { s1 with heap := s1.heap.push { cls := .type "dict_values", data := .fields #[.ref d] } } := by
      refine wpAny_pyIter_values (d := d) (knd := mixKind X.prog X.w) ⟨_, Heap.get?_push_size _ rfl, rfl, rfl⟩ (hm.push _) (pi_one (tk := s1.toks) I2 _ (turn_vals _ hdt) ⟨_, Heap.get?_push_size _ rfl, rfl, ?_⟩ q')
      rw [hl] <;> rfl
    show wpAny _ _ (callWith cpos (.builtin "dict.values") [.ref d] [] []) _ X.xe s1
    exact method_meetsIn PySem.F.slot_dict_values PySem.F.entry_dict_values rfl (PySem.evalArgs_none ⟨rfl, hm.dictOf.typeIs, PySem.F.args_dict_values_1 _, _, meets_dict_values (mixKind X.prog X.w) d hs, ⟨vs, hm.dictOf⟩, fin⟩)
  · subst eu
    obtain ⟨od, IL⟩ := I1.lock hd trivial
    have q' := q od
    have hdL : upd H1 d (.frz od (.dT kvs)) d = some (.frz od (.dT kvs)) := upd_same
    obtain ⟨hs, hgd, hx, es, ep, hdt, hsz, ent⟩ := IL.frzTv hdL
    have raw : s1.heap.DictRaw d es ep := ⟨od, hgd, hx, hdt⟩
    refine ⟨⟨od, hgd, hx.1⟩, fun b e => by cases e; exact ⟨od, hgd, hx.2.1⟩, ?_⟩
    have I2 : Inv X pins σ (upd H1 d (.frz od (.dT kvs))) { s1 with heap := s1.heap.push { cls := .type "dict_values", data := .fields #[.ref d] } } := IL.kept (t' := s1.toks) fun b ob q => Heap.get?_push_of_some _ q
    have raw2 : (s1.heap.push { cls := .type "dict_values", data := .fields #[.ref d] }).DictRaw d es ep := ⟨od, Heap.get?_push_of_some _ hgd, hx, hdt⟩
    have fin : wpAny (model X.prog X.w) X.A (pyIter (.ref s1.heap.objs.size)) (PIE X pins σ tg R) X.xe { s1 with heap := s1.heap.push { cls := .type "dict_values", data := .fields #[.ref d] } } := by
      refine PySem.wpAny_pyIter_values_raw (d := d) ⟨_, Heap.get?_push_size _ rfl, rfl, rfl⟩ raw2 (pi_one (tk := s1.toks) I2 _ (turn_valsT _ hdt) ⟨_, Heap.get?_push_size _ rfl, rfl, ?_⟩ q')
      rw [hsz] <;> rfl
    show wpAny _ _ (callWith cpos (.builtin "dict.values") [.ref d] [] []) _ X.xe s1
    exact method_meetsIn PySem.F.slot_dict_values PySem.F.entry_dict_values rfl (PySem.evalArgs_none ⟨rfl, ⟨od, hgd, hx.1⟩, PySem.F.args_dict_values_1 _, _, PySem.meets_dict_values_raw d hs, ⟨⟨es, ep, raw⟩, fin⟩⟩)
namespace DL
/-! ### [.. for v in d.values()], d locked for good -/
def valsD : Cell → Option (List D × Cell)
  | .dK kvs => some (kvs.map (·.2), .fK kvs)
  | .dT kvs => some (kvs.map (·.2), .fT kvs)
  | _ => none
def dCompF (fe : DE) (g : DG) (vs : List Nat) (tt : DB) (te : DE) : DE := fun env S => (fe env S).bind fun d S1 => match d with
  | .ref n => match (S1[n]?).bind valsD with
    | some (ds, cl) => (compGo g (wipeE env vs) tt te ds [] (S1.set n cl)).bind fun acc S2 => .ok (.lst acc) S2
    | none => .bad
  | _ => .bad
section
variable {X : Cx} {W : WX} {tg elt e : Expr} {fe : DE} {g : DG} {tt : DB} {te : DE} {scope : Scope} {own : List (Str × Nat)} {go : List Nat} {ifs : List Expr} {pos : Pos} {σ : St} {H : Hp} {Q : VK}
def CInvF (X : Cx) (W : WX) (a : Addr) (od : Obj) (u : HO) (g : DG) (vs : List Nat) (tt : DB) (te : DE) (σ : St) (Q : VK) (env : Ev) (t r1 : List Addr) (H1 : Hp) (p : Addr) (tok : List (V × D)) (ds : List D) (H2 : Hp) : Prop :=
  ∃ r2 S2 acc accV, H2 a = some (.frz od u) ∧ H2 p = some (.lst accV) ∧ DenL X.K H2 r2 (p :: t) accV acc ∧ Rel X.K X.mg H2 r2 (p :: t) S2 (wipeE env vs) (wipe σ vs) ∧ Ext r1 H1 r2 H2 ∧
      (∀ q ∈ tok, Den X.K H2 r2 (p :: t) q.1 q.2) ∧ Good X.K X.mg t (EW W σ) r1 H1 ((compGo g (wipeE env vs) tt te ds acc S2).bind fun acc S2 => .ok (.lst acc) S2) fun d _ r' H' => ∀ v, Den X.K H' r' t v d → Q v H'
theorem lcF_step {t r1 : List Addr} {a : Addr} {od : Obj} {u : HO} {env : Ev} {S1 : Sto} {ds : List D} {J : It} {vs : List Nat} {H1 : Hp} {tok : List (V × D)} (hgo : ∀ i ∈ go, i ∈ vs)
    (hgoJ : ∀ i H2, H2 a = some (.frz od u) → i < ds.length → J.go i H2) (hst : ∀ i H2, H2 a = some (.frz od u) → ds.length ≤ i → J.stop i H2)
    (hy : ∀ i H2 x H' r2 t2 (h : i < ds.length), (∀ q ∈ tok, Den X.K H2 r2 t2 q.1 q.2) → J.yld i H2 x H' → H' = H2 ∧ Den X.K H2 r2 t2 x ds[i])
    (hA1 : H1 a = some (.frz od u)) (rel1 : Rel X.K X.mg H1 r1 t S1 env σ) (htok : ∀ q ∈ tok, Den X.K H1 r1 t q.1 q.2)
    (g1 : Good X.K X.mg t (EW W σ) r1 H1 ((compGo g (wipeE env vs) tt te ds [] S1).bind fun acc S2 => .ok (.lst acc) S2) fun d _ r' H' => ∀ v, Den X.K H' r' t v d → Q v H') (p : Addr) (hp : H1 p = none) :
    ∃ W2 : Nat → Nat → Hp → Prop, (∃ m, W2 0 m (upd H1 p (.lst []))) ∧ ∀ i m H2, W2 i m H2 →
      (J.stop i H2 ∧ Q (.ref p) H2) ∨ (J.go i H2 ∧ ∃ N : Hp → Prop, (∀ H', N H' → ∃ m', m' < m ∧ W2 (i + 1) m' H') ∧ ∀ x H', J.yld i H2 x H' → tG X.K X.mg go g x (wipe σ vs) H' fun σ2 H3 => wipe σ2 vs = wipe σ vs ∧
        tB' X W0 tt σ2 H3 fun k H4 => if k = true then tE X W0 te σ2 H4 fun y H5 => ∃ accV, H5 p = some (.lst accV) ∧ accV.length < sizeLine ∧ N (upd H5 p (.lst (accV ++ [y]))) else N H4) := by
  have nn := notinNew rel1.so hp
  refine ⟨fun i m H2 => m = ds.length - i ∧ i ≤ ds.length ∧ CInvF X W a od u g vs tt te σ Q env t r1 H1 p tok (ds.drop i) H2,
    ⟨ds.length, rfl, Nat.zero_le _, r1, S1, [], [], by rw [upd_ne (fun e => by rw [← e, hA1] at hp; cases hp)]; exact hA1, upd_same, .nil, (rel1.hide hp).wipes vs, Ext.new hp, fun q hq => Den.hide hp _ _ (htok q hq), g1⟩, ?_⟩
  rintro i m H2 ⟨rfl, hi, r2, S2, acc, accV, hA2, hD2, dacc, rel2, ex2, htok2, g2⟩
  have nD : p ∉ r2 := (rel2.so.hid p List.mem_cons_self).2
  by_cases hlt : i < ds.length
  · rw [List.drop_eq_getElem_cons hlt] at g2
    unfold compGo at g2
    cases hE : g (wipeE env vs) ds[i] with
    | none => rw [hE] at g2; exact (show False from g2).elim
    | some env' =>
      rw [hE] at g2
      dsimp only at g2
      rw [Out.bind_assoc] at g2
      refine .inr ⟨hgoJ i H2 hA2 hlt, fun H3 => CInvF X W a od u g vs tt te σ Q env t r1 H1 p tok (ds.drop (i + 1)) H3, fun H' h => ⟨ds.length - (i + 1), by omega, rfl, hlt, h⟩, fun x H' y => ?_⟩
      obtain ⟨eH, dx⟩ := hy i H2 x H' r2 (p :: t) hlt htok2 y
      subst eH
      refine ⟨r2, p :: t, S2, wipeE env vs, ds[i], rel2, dx, env', hE, fun σ2 relS off => ⟨wipe_back off hgo, ?_⟩⟩
      refine ⟨r2, p :: t, S2, env', relS, (Good.split g2).mono fun b S3 r3 H3 ex3 so3 g3 => ?_⟩
      have exA := ex3
      have hA3 := ex3.frzs _ _ _ hA2
      have hD3 : H3 p = some (.lst accV) := exA.keep p _ hD2 nD
      have rel3 := rel2.ext ex3 so3
      have nD3 : p ∉ r3 := (so3.hid p List.mem_cons_self).2
      cases b with
      | false => exact iteF ⟨r3, S3, acc, accV, hA3, hD3, DenL.ext exA _ _ dacc, rel3, ex2.trans exA, fun q hq => Den.ext exA _ _ (htok2 q hq), g3⟩
      | true =>
        refine iteT ?_
        have g3' := g3
        rw [if_pos rfl, Out.bind_assoc] at g3'
        refine ⟨r3, p :: t, S3, env', relS.ext ex3 so3, (Good.split g3').mono fun y S4 r4 H4 ex4 so4 g4 yv dyv => ?_⟩
        have hA4 := ex4.frzs _ _ _ hA3
        have hD4 : H4 p = some (.lst accV) := ex4.keep p _ hD3 nD3
        have hz : acc.length < sizeLine ∧ Good X.K X.mg t (EW W σ) r1 H1 ((compGo g (wipeE env vs) tt te (ds.drop (i + 1)) (acc ++ [y]) S4).bind fun acc S2 => .ok (.lst acc) S2) (fun d _ r' H' => ∀ v, Den X.K H' r' t v d → Q v H') := by
          by_cases hz : acc.length < sizeLine
          · rw [if_pos hz] at g4; exact ⟨hz, g4⟩
          · rw [if_neg hz] at g4; exact (show False from g4).elim
        have exB := exA.trans ex4
        have hT : ∀ ys, H4 p ≠ some (.tup ys) := fun ys e => by rw [hD4] at e; cases e
        have hF : ∀ ob u, H4 p ≠ some (.frz ob u) := fun ob u e => by rw [hD4] at e; cases e
        have mD : p ∈ p :: t := List.mem_cons_self
        exact ⟨accV, hD4, by rw [dacc.length]; exact hz.1, r4, S4, acc ++ [y], accV ++ [yv], by rw [upd_ne (fun e => by rw [e, hD4] at hA4; cases hA4)]; exact hA4, upd_same, DenL.over mD hT hF _ _ ((DenL.ext exB _ _ dacc).append (.cons dyv .nil)), (rel3.ext ex4 so4).over mD hD4, (ex2.trans exB).overNew hp, fun q hq => Den.over mD hT hF _ _ (Den.ext exB _ _ (htok2 q hq)), hz.2⟩
  · have e : i = ds.length := by omega
    subst e
    rw [List.drop_length] at g2
    refine .inl ⟨hst _ H2 hA2 (Nat.le_refl _), ?_⟩
    have sub : ∀ a ∈ t, a ∈ p :: t := fun a ha => List.mem_cons_of_mem _ ha
    exact g2 H2 r2 ex2 (rel2.so.less sub) _ (.lst hD2 nD nn.2 (DenL.less sub _ _ dacc))
theorem zip_den {r t : List Addr} {H : Hp} : ∀ {vs : List V} {ds : List D}, DenL X.K H r t vs ds → ∀ q ∈ vs.zip ds, Den X.K H r t q.1 q.2
  | _, _, .nil, q, hq => absurd hq List.not_mem_nil
  | _, _, .cons h1 h2, q, hq => by
    rcases List.mem_cons.mp hq with e | e
    · rw [e]; exact h1
    · exact zip_den h2 q e
theorem zip_get {vs : List V} {ds : List D} {i : Nat} {x : V} (hl : vs.length = ds.length) (h : i < ds.length) (hx : vs[i]? = some x) : (x, ds[i]) ∈ vs.zip ds := by
  refine List.mem_of_getElem? (i := i) ?_
  rw [List.getElem?_zip_eq_some]
  exact ⟨hx, List.getElem?_eq_getElem h⟩
theorem tLcF_of {vs : List Nat} (hgo : ∀ i ∈ go, i ∈ vs) (q : tE X W (dCompF fe g vs tt te) σ H Q) : tLc (iValsL (tE X W fe)) (tG X.K X.mg go g) (tB' X W0 tt) (tE X W0 te) vs σ H Q := by
  obtain ⟨r, t, S, env, rel, g0⟩ := q
  refine ⟨r, t, S, env, rel, g0.bind.mono fun d S1 r1 H1 ex so g1 v dv => ?_⟩
  have rel1 := rel.ext ex so
  split at g1
  case h_2 => exact (show False from g1).elim
  rename_i n
  split at g1
  case h_2 => exact (show False from g1).elim
  rename_i ds cl hk
  obtain ⟨c, hc0, hkd⟩ := Option.bind_eq_some_iff.mp hk
  cases dv with
  | @ref a _ hn =>
  have har : a ∈ r1 := List.mem_of_getElem? hn
  have ok := so.ok n a c hn hc0
  cases c with
  | dK kvs =>
    cases hkd
    obtain ⟨ps, hH, z⟩ := ok
    refine ⟨a, .dK ps, rfl, hH, .inl ⟨ps, rfl, fun od p hp => ?_⟩⟩
    have exl : Ext r1 H1 r1 (upd H1 a (.frz od (.dK ps))) := Ext.write hH trivial har
    have sol : SOk X.K X.mg (upd H1 a (.frz od (.dK ps))) r1 t (S1.set n (.fK kvs)) := so.write (o := .frz od (.dK ps)) hn hH trivial ⟨od, ps, upd_same, DenP.ext exl z⟩
    have hlen : (ps.map (·.2)).length = (kvs.map (·.2)).length := z.2.length
    have hpl : ps.length = (kvs.map (·.2)).length := by rw [← hlen, List.length_map]
    refine lcF_step (J := Itd a od ps) (a := a) (od := od) (u := .dK ps) (tok := (ps.map (·.2)).zip (kvs.map (·.2))) hgo (fun i H2 hA hi => ⟨hA, by rw [hpl]; exact hi⟩) (fun i H2 hA hi => ⟨hA, by rw [hpl]; exact hi⟩) (fun i H2 x H' r2 t2 hi htk y => ?_) upd_same (rel1.ext exl sol) (zip_den (DenP.ext exl z).2) (g1.ext exl) p hp
    obtain ⟨eH, k, hk2⟩ := y
    have hx : (ps.map (·.2))[i]? = some x := by rw [List.getElem?_map, hk2]; rfl
    exact ⟨eH, htk _ (zip_get hlen hi hx)⟩
  | dT kvs =>
    cases hkd
    obtain ⟨ps, hH, z⟩ := ok
    refine ⟨a, .dT ps, rfl, hH, .inr ⟨ps, rfl, fun od p hp => ?_⟩⟩
    have exl : Ext r1 H1 r1 (upd H1 a (.frz od (.dT ps))) := Ext.write hH trivial har
    have sol : SOk X.K X.mg (upd H1 a (.frz od (.dT ps))) r1 t (S1.set n (.fT kvs)) := so.write (o := .frz od (.dT ps)) hn hH trivial ⟨od, ps, upd_same, DenP.ext exl z⟩
    have hlen : (ps.map (·.2)).length = (kvs.map (·.2)).length := z.2.length
    have hpl : ps.length = (kvs.map (·.2)).length := by rw [← hlen, List.length_map]
    refine lcF_step (J := Itdt a od ps) (a := a) (od := od) (u := .dT ps) (tok := (ps.map (·.2)).zip (kvs.map (·.2))) hgo (fun i H2 hA hi => ⟨hA, by rw [hpl]; exact hi⟩) (fun i H2 hA hi => ⟨hA, by rw [hpl]; exact hi⟩) (fun i H2 x H' r2 t2 hi htk y => ?_) upd_same (rel1.ext exl sol) (zip_den (DenP.ext exl z).2) (g1.ext exl) p hp
    obtain ⟨eH, k, hk2⟩ := y
    have hx : (ps.map (·.2))[i]? = some x := by rw [List.getElem?_map, hk2]; rfl
    exact ⟨eH, htk _ (zip_get hlen hi hx)⟩
  | _ => cases hkd
theorem de_compF {apos cpos : Pos} (hc : X.calm = true) (hN : X.N.Nodup) (hi : PE X e (tE X W fe)) (ok : BlkOk X.N X.env.scope scope own) (hgo : ∀ i ∈ go, i ∈ own.map (·.2))
    (hg : ∀ (s : Shared) (H : Hp) (C : Addr) (cl : List (Str × Addr)) (fp : List Addr), PG (X.blk s H scope (compEnvC scope cl C X.env) fp) tg (tG X.K X.mg go g)) (ht : ∀ (s : Shared) (H : Hp) (C : Addr) (cl : List (Str × Addr)) (fp : List Addr), PTs (X.blk s H scope (compEnvC scope cl C X.env) fp) ifs (tB' X W0 tt))
    (he : ∀ (s : Shared) (H : Hp) (C : Addr) (cl : List (Str × Addr)) (fp : List Addr), PE (X.blk s H scope (compEnvC scope cl C X.env) fp) elt (tE X W0 te)) (hs : ∀ y, foldedSetIterable (.Call (.Attribute e "values" apos) [] [] cpos) X.env y = pure y := by intro _; rfl) (hbase : attributeBase e "values" X.env (eval e X.env) = eval e X.env := by rfl) (hline : (apos.endLine == cpos.line) = true := by rfl) :
    PE X (.ListComp elt [⟨tg, .Call (.Attribute e "values" apos) [] [] cpos, ifs, 0⟩] scope pos) (tE X W (dCompF fe g (own.map (·.2)) tt te)) :=
  PE.imp (pe_lc hc hN (pi_valsL hi hbase hline) ok hg ht he hs) fun _ _ _ q => tLcF_of hgo q
end
/-! ### d.clear() -/
def rClearA : V → List V → Hp → VK → Prop := fun x vs H Q => ∃ a : Addr, x = .ref a ∧ vs = [] ∧ ((∃ kvs, H a = some (.dK kvs) ∧ Q .non (upd H a (.dK []))) ∨ ∃ kvs, H a = some (.dT kvs) ∧ Q .non (upd H a (.dT [])))
theorem mt_clearA {X : Cx} : MtR X "dict.clear" rClearA := by
  intro pins s σ H x vs v us Q I rx rv h
  obtain ⟨a, rfl, rfl, h⟩ := h
  obtain rfl : v = Value.ref a := rx
  have hus := rv.zero
  subst hus
  rcases h with ⟨kvs, e, q⟩ | ⟨kvs, e, q⟩
  · exact d_clear I e fun s' I' => ⟨.non, _, I', rfl, q⟩
  · obtain ⟨z, y, xs, kt, dd⟩ := dt_of I.hok e
    have dd' := dd
    obtain ⟨o, es, ep, ho, hx, hd, he, his, hn⟩ := dd'
    have hsz : es.size ≤ sizeLine := by rw [size_of_entries he, ← Paired.length kt]; exact z
    refine call_meetsIn PySem.F.slot_dict_clear dd.typeIs PySem.F.entry_dict_clear (PySem.F.args_dict_clear_1 _) (PySem.meets_dict_clear_raw a) ⟨es, ep, ⟨o, ho, hx, hd⟩, hsz, fun h' dr hs => ?_⟩
    obtain ⟨o', ho', hx', hd'⟩ := dr
    refine ⟨.non, _, d_write (t' := s.toks) I (by rw [e]; exact True.intro) hs ⟨o', ho'⟩ (ob := .dT []) ⟨Nat.zero_le _, y, [], .nil, o', #[], ep + 1, ho', hx', hd', rfl, List.nodup_nil⟩, rfl, q⟩
def dClear (fo : DE) : DE := fun env S => (fo env S).bind fun o S1 => match o with
  | .ref n => match S1[n]? with
    | some (.dK _) => .ok .non (S1.set n (.dK []))
    | some (.dT _) => .ok .non (S1.set n (.dT []))
    | _ => .bad
  | _ => .bad
theorem de_clear {X : Cx} {W : WX} {o : Expr} {fo : DE} {apos cpos : Pos} (ho : PE X o (tE X W fo)) (hbase : attributeBase o "clear" X.env (eval o X.env) = eval o X.env := by rfl) (hline : (apos.endLine == cpos.line) = true := by rfl) : PE X (.Call (.Attribute o "clear" apos) [] [] cpos) (tE X W (dClear fo)) := by
  refine PE.imp (pe_bm0 PySem.F.plainAttrs_dict PySem.F.slot_dict_clear PySem.F.type_dict_clear mt_clearA ho hbase hline) fun σ H Q q => ?_
  obtain ⟨r, t, S, env, rel, g⟩ := q
  refine ⟨r, t, S, env, rel, g.bind.mono fun od S1 r1 H1 ex so g1 v dv => ?_⟩
  split at g1
  · rename_i n
    cases dv with
    | @ref a _ hn =>
    have har : a ∈ r1 := List.mem_of_getElem? hn
    split at g1
    · rename_i kvs hS
      obtain ⟨ps, hH, z⟩ := so.ok n a _ hn hS
      refine ⟨.inr (.inr (.inl ⟨rfl, .inl ⟨_, hH⟩⟩)), a, rfl, rfl, .inl ⟨ps, hH, ?_⟩⟩
      have ex3 : Ext r1 H1 r1 (upd H1 a (.dK [])) := Ext.write hH trivial har
      exact g1 _ r1 ex3 (so.write (o := .dK []) hn hH trivial ⟨[], upd_same, rfl, .nil⟩) _ .non
    · rename_i kvs hS
      obtain ⟨ps, hH, z⟩ := so.ok n a _ hn hS
      refine ⟨.inr (.inr (.inl ⟨rfl, .inr ⟨_, hH⟩⟩)), a, rfl, rfl, .inr ⟨ps, hH, ?_⟩⟩
      have ex3 : Ext r1 H1 r1 (upd H1 a (.dT [])) := Ext.write hH trivial har
      exact g1 _ r1 ex3 (so.write (o := .dT []) hn hH trivial ⟨[], upd_same, rfl, .nil⟩) _ .non
    · exact (show False from g1).elim
  · exact (show False from g1).elim
/-! ### == of tables -/
def rrT (X : Cx) (neg : Bool) : R2 := fun x y H Q => ∃ r t S dx dy d, SOk X.K X.mg H r t S ∧ Den X.K H r t x dx ∧ Den X.K H r t y dy ∧ oEqT neg S dx dy = some d ∧ ∀ w, Den X.K H r t w d → Q w H
theorem od_eqT {X : Cx} (hu : X.A.units + 65 < cLine) : OpD X (compareOp .Eq) (oEqT false) := by
  refine ⟨rrT X false, fun pins s σ H x y v u Q I rx ry h => ?_, fun r t S H x y v u d Q so dx dy e q => ⟨r, t, S, x, y, d, so, dx, dy, e, fun w dw => q w H (Ext.refl _ _) so dw⟩⟩
  obtain ⟨r, t, S, dx, dy, d, so, hx, hy, e, q⟩ := h
  exact op_eqT false hu S I so rx ry hx hy e q
theorem od_neT {X : Cx} (hu : X.A.units + 65 < cLine) : OpD X (compareOp .NotEq) (oEqT true) := by
  refine ⟨rrT X true, fun pins s σ H x y v u Q I rx ry h => ?_, fun r t S H x y v u d Q so dx dy e q => ⟨r, t, S, x, y, d, so, dx, dy, e, fun w dw => q w H (Ext.refl _ _) so dw⟩⟩
  obtain ⟨r, t, S, dx, dy, d, so, hx, hy, e, q⟩ := h
  exact op_eqT true hu S I so rx ry hx hy e q
/-! ### their rules -/
section
variable {n : Nat} {env : Ev} {S : Sto} {fe : DE} {g : DG}
def kCompF (g : DG) (vs : List Nat) (tt : DB) (te : DE) (env : Ev) (P : D → Sto → Prop) (d : D) (S1 : Sto) : Prop := ∃ n ds cl, d = .ref n ∧ (S1[n]?).bind valsD = some (ds, cl) ∧ Wp (compGo g (wipeE env vs) tt te ds [] (S1.set n cl)) fun acc S2 => P (.lst acc) S2
theorem w_CompF {vs : List Nat} {tt : DB} {te : DE} {P : D → Sto → Prop} (h : Wp (fe env S) (kCompF g vs tt te env P)) : Wp (dCompF fe g vs tt te env S) P := by
  unfold dCompF
  rw [wp_bind]
  refine h.mono fun d S1 q => ?_
  obtain ⟨n, ds, cl, ed, hk, q⟩ := q
  subst ed
  dsimp only
  rw [hk]
  dsimp only
  rw [wp_bind]
  exact q.mono fun acc S2 q => Wp.of rfl q
def kClear (P : D → Sto → Prop) (d : D) (S1 : Sto) : Prop := ∃ n, d = .ref n ∧ ((∃ kvs, S1[n]? = some (.dK kvs) ∧ P .non (S1.set n (.dK []))) ∨ ∃ kvs, S1[n]? = some (.dT kvs) ∧ P .non (S1.set n (.dT [])))
theorem w_Clear {P : D → Sto → Prop} (h : Wp (fe env S) (kClear P)) : Wp (dClear fe env S) P := by
  unfold dClear
  rw [wp_bind]
  refine h.mono fun d S1 q => ?_
  obtain ⟨n, ed, q⟩ := q
  subst ed
  dsimp only
  rcases q with ⟨kvs, e, q⟩ | ⟨kvs, e, q⟩
  · rw [e]; exact Wp.of rfl q
  · rw [e]; exact Wp.of rfl q
end
end DL
end L2

set_option Elab.async false
set_option linter.all false
set_option maxRecDepth 100000
set_option maxHeartbeats 1000000
/-! a tuple once, a tuple no time. -/
namespace L2
open PySem PySem.Spec PyProof.Rows
theorem tuple_mul1W (l : Addr) (items : Array Value) (n : Nat) (sl : Array (Option Value)) (dd : Option Addr) (u : Tok) :
    Meets (Builtin.«tuple.__mul__» ⟨[.ref l, .int 1 u], []⟩) (fun _ R s => s.heap.get? l = some { cls := .type "tuple", dict := dd, data := .seq items n, slots := sl } ∧ R (.ok (.ret (Value.ref l))) { s with heap := s.heap, toks := s.toks }) :=
  .of_wp fun prog w A R s h => by
    obtain ⟨hp, g, d, tk, os⟩ := s
    obtain ⟨hl, h⟩ := h
    have f1 := AutoSeq1.idx_int
    wp_walk using wpAny_loadPart' hl
    repeat (first
      | (refine wpAny_ite_false (decide_eq_false (by decide)) ?_; wp_walk using wpAny_loadPart' hl)
      | (refine wpAny_ite_true (decide_eq_true (by rw [Bool.or_eq_true]; exact .inr rfl)) ?_; wp_walk using wpAny_loadPart' hl))
    exact ⟨_, rfl, h⟩
theorem tuple_mul0W (l : Addr) (items : Array Value) (n : Nat) (sl : Array (Option Value)) (dd : Option Addr) (u : Tok) (hne : items.isEmpty = false) :
    Meets (Builtin.«tuple.__mul__» ⟨[.ref l, .int 0 u], []⟩) (fun _ R s => s.heap.get? l = some { cls := .type "tuple", dict := dd, data := .seq items n, slots := sl } ∧
      R (.ok (.ret (Value.ref s.heap.objs.size))) { s with heap := s.heap.push { cls := Value.type "tuple", data := Data.seq #[] }, toks := s.toks }) :=
  .of_wp fun prog w A R s h => by
    obtain ⟨hp, g, d, tk, os⟩ := s
    obtain ⟨hl, h⟩ := h
    have f1 := AutoSeq1.idx_int
    wp_walk using wpAny_loadPart' hl
    repeat (first
      | (refine wpAny_ite_false (decide_eq_false (by decide)) ?_; wp_walk using wpAny_loadPart' hl)
      | (refine wpAny_ite_false (decide_eq_false (by rw [hne]; decide)) ?_; wp_walk using wpAny_loadPart' hl)
      | (refine wpAny_ite_true (decide_eq_true (by rw [Bool.or_eq_true]; exact .inl rfl)) ?_; wp_walk using wpAny_loadPart' hl))
    exact ⟨_, rfl, h⟩
/-- k is 0 or 1 -/
def rRep01 (K : PySem.W.Frag) : R2 := fun x y H Q => ∃ l k xs, x = .ref l ∧ y = .int k ∧ SqT K H l xs ∧ xs ≠ [] ∧ ((k = 1 ∧ Q (.ref l) H) ∨ (k = 0 ∧ ∀ p, H p = none → Q (.ref p) (upd H p (.tup []))))
section
variable {X : Cx}
theorem op_rep01 : OpR X (binaryOp .Mult) (rRep01 X.K) := by
  intro pins s σ H x y v u Q I rx ry h
  obtain ⟨l, k, xs, rfl, rfl, hT, hne, q⟩ := h
  cases rx
  obtain ⟨t, rfl⟩ := ry
  obtain ⟨its, r, ⟨⟨cls, dd, data, sl⟩, ho, hc, n, hd⟩, hs⟩ := I.tuple hT
  simp only at hc hd
  subst hc hd
  have hn : its ≠ [] := fun e => hne (by
    rw [e] at r
    exact List.eq_nil_of_length_eq_zero r.length)
  have hi : its.toArray.isEmpty = false := by
    cases its with
    | nil => exact absurd rfl hn
    | cons a b => rfl
  rcases q with ⟨rfl, q⟩ | ⟨rfl, q⟩
  · refine wpAny_binaryOp_repeat_ref (T := "tuple") (U := "int") (by decide) ⟨_, ho, rfl⟩ (fun s' => typeIs_int s' 1 t) noFill_tuple_mul F.fills_int_mul F.slot_int_rmul repeat_tuple F.slot_int_index.lookup
      (call_meets F.slot_int_rmul (typeIs_int s 1 t) F.entry_int_rmul (F.args_int_rmul_2 _ _) (int_rmul_tuple 1 t l its.toArray n dd sl)
        ⟨ho, rfl, ⟨_, ho, rfl⟩, call_meets F.slot_tuple_mul ⟨_, ho, rfl⟩ F.entry_tuple_mul (F.args_tuple_mul_2 _ _) (tuple_mul1W l its.toArray n sl dd t) ⟨ho, ?_⟩⟩)
    exact ⟨.ref l, _, I, rfl, q⟩
  · refine wpAny_binaryOp_repeat_ref (T := "tuple") (U := "int") (by decide) ⟨_, ho, rfl⟩ (fun s' => typeIs_int s' 0 t) noFill_tuple_mul F.fills_int_mul F.slot_int_rmul repeat_tuple F.slot_int_index.lookup
      (call_meets F.slot_int_rmul (typeIs_int s 0 t) F.entry_int_rmul (F.args_int_rmul_2 _ _) (int_rmul_tuple 0 t l its.toArray n dd sl)
        ⟨ho, rfl, ⟨_, ho, rfl⟩, call_meets F.slot_tuple_mul ⟨_, ho, rfl⟩ F.entry_tuple_mul (F.args_tuple_mul_2 _ _) (tuple_mul0W l its.toArray n sl dd t hi) ⟨ho, ?_⟩⟩)
    refine ⟨.ref s.heap.objs.size, _, I.laid (t' := s.toks) (o := .tup []) (fun b ob q => Heap.get?_push_of_some _ q) (Nat.le_refl _) ?_, rfl, q _ (I.hok.fresh (Nat.le_refl _))⟩
    exact ⟨Nat.zero_le _, _, .nil, IsTup.new _ _⟩
end
namespace DL
section
variable {X : Cx}
def oRep01 : Sto → D → D → Option D := fun _ x y => match tupOf x, y with
  | some a, .int k => if a ≠ [] ∧ k = 1 then some (.tup a) else if a ≠ [] ∧ k = 0 then some (.tup []) else none
  | _, _ => none
theorem od_rep01 : OpD X (binaryOp .Mult) oRep01 := by
  refine ⟨_, op_rep01, fun r t S H x y v u d Q so dx dy e q => ?_⟩
  unfold oRep01 at e
  split at e
  · rename_i a k ea
    obtain ⟨p, xs, rfl, h1, z1⟩ := tup_ok dx ea
    cases dy
    have hne : a ≠ [] → xs ≠ [] := fun h e0 => by
      subst e0
      cases z1
      exact h rfl
    split at e
    · rename_i hl
      cases e
      exact ⟨p, k, xs, rfl, rfl, sqT_of h1, hne hl.1, .inl ⟨hl.2, q _ _ (Ext.refl _ _) so (.tup h1 z1)⟩⟩
    · split at e
      · rename_i hl
        cases e
        exact ⟨p, k, xs, rfl, rfl, sqT_of h1, hne hl.1, .inr ⟨hl.2, fun n hn => newT so hn .nil q⟩⟩
      · cases e
  · cases e
def oMulB : Sto → D → D → Option D := orO oMul oRep01
theorem od_mulB : OpD X (binaryOp .Mult) oMulB := od_mul.or od_rep01
end
end DL
end L2

set_option Elab.async false
set_option linter.all false
set_option maxRecDepth 100000
set_option maxHeartbeats 1000000
/-! try with a handler that asks the caught one for its classes; a field of what is never told. -/
namespace L2
namespace DL
open PySem PySem.Spec PyProof.Rows
/-! ### the handler's expressions: truths, by the one slot j -/
def tHv (a : Addr) (i j : Nat) (f : Bool → Bool) : TE := fun σ H Q => σ[i]? = some (some (.ref a)) ∧ ∃ b, σ[j]? = some (some (.bl b)) ∧ Q (.bl (f b)) H
def tHs (a : Addr) (i j : Nat) (f : Bool → Bool) : TS := fun Dn σ H => σ[i]? = some (some (.ref a)) ∧ ∃ b, σ[j]? = some (some (.bl b)) ∧ Dn.nx (σ.set j (some (.bl (f b)))) H
section
variable {X : Cx} {a : Addr} {i j : Nat} {f g : Bool → Bool} {e e2 : Expr} {rest : List Expr} {pos p : Pos} {m : Str}
theorem h_var (hj : X.N[j]? = some m) (hlm : X.env.scope.names.lookup m = some .local) (hd : (m == ("__debug__" : Str)) = false) (hcd : (m == ("__classdict__" : Str)) = false) : PE X (.Name m p) (tHv a i j fun b => b) :=
  PE.imp (pe_var hj (.inl hlm) hd hcd) fun σ H Q q => by
    obtain ⟨_, b, hb, q⟩ := q
    exact ⟨.bl b, hb, q⟩
theorem h_not (h : PE X e (tHv a i j f)) : PE X (.UnaryOp .Not e pos) (tHv a i j fun b => !f b) :=
  PE.imp (pe_not h) fun σ H Q q => by
    obtain ⟨h1, b, hb, q⟩ := q
    exact ⟨h1, b, hb, f b, rfl, q⟩
theorem h_one (h : PE X e (tHv a i j f)) : PE X (.BoolOp .And [e] pos) (tHv a i j f) := pe_one h
theorem h_and (h : PE X e (tHv a i j f)) (h2 : PE X (.BoolOp .And (e2 :: rest) pos) (tHv a i j g)) : PE X (.BoolOp .And (e :: e2 :: rest) pos) (tHv a i j fun b => f b && g b) :=
  PE.imp (pe_and h h2) fun σ H Q q => by
    obtain ⟨h1, b, hb, q⟩ := q
    refine ⟨h1, b, hb, f b, rfl, ?_⟩
    dsimp only at q
    cases hf : f b with
    | true =>
      rw [hf, Bool.true_and] at q
      exact ⟨h1, b, hb, q⟩
    | false =>
      rw [hf, Bool.false_and] at q
      exact q
theorem hs_one {st : Stmt} (h : PS X st (tHs a i j f)) : PSs X [st] (tHs a i j f) := pss_one h
theorem hs_cons {st : Stmt} {sts : List Stmt} (h : PS X st (tHs a i j f)) (h2 : PSs X sts (tHs a i j g)) (hij : i ≠ j) : PSs X (st :: sts) (tHs a i j fun b => g (f b)) :=
  PSs.imp (pss_cons h h2) fun Dn σ H q => by
    obtain ⟨h1, b, hb, q⟩ := q
    refine ⟨h1, b, hb, ?_⟩
    have hl := (List.getElem?_eq_some_iff.mp hb).1
    refine ⟨by rw [List.getElem?_set_ne (Ne.symm hij)]; exact h1, f b, List.getElem?_set_self hl, ?_⟩
    rw [List.set_set]
    exact q
end
section
variable {X : Cx} {a D : Addr} {oe : Obj} {pn : List (Addr × Obj)} {i j : Nat} {n x c : Str} {tab : List (Str × Bool)} {p p2 p3 pos : Pos}
def lkB (tab : List (Str × Bool)) (c : Str) : Bool := (tab.lookup c).getD false
theorem lkB_mem {c : Str} : ∀ {tab : List (Str × Bool)}, c ∈ tab.map (·.1) → (c, lkB tab c) ∈ tab
  | [], h => by cases h
  | (k, v) :: r, h => by
    unfold lkB
    rw [List.lookup_cons]
    by_cases e : c = k
    · subst e
      rw [show (c == c) = true from beq_self_eq_true c]
      exact List.mem_cons_self
    · rw [show (c == k) = false from beq_eq_false_iff_ne.mpr e]
      refine List.mem_cons_of_mem _ (lkB_mem (tab := r) ?_)
      rcases List.mem_cons.mp h with q | q
      · exact absurd q e
      · exact q
theorem h_isE (ic : IsC X.K X.mg x tab) (hc : c ∈ tab.map (·.1)) (hD : X.mg c = some (.ref D)) (hz : Zc (.ref D) none oe) (hf : ∃ vs, oe.data = .fields vs) (hi : X.N[i]? = some n) (hln : X.env.scope.names.lookup n = some .local) (hd : (n == ("__debug__" : Str)) = false) (hcd : (n == ("__classdict__" : Str)) = false)
    (hg2 : Gl X x) (hm : X.mg "isinstance" = none) (hg : Gl X "isinstance" := by rfl) (hdb : (x == ("__debug__" : Str)) = false := by decide)
    (hs : starEach [.Name n p3, .Name x p2] X.env = (false, eval (.Name n p3) X.env) :: starEach [.Name x p2] X.env := by rfl) (hpl : (backTo pos (starEach [.Name x p2] X.env)).any (·.1) = false := by rfl) :
    PE (X.suite a ((a, oe) :: pn)) (.Call (.Name "isinstance" p) [.Name n p3, .Name x p2] [] pos) (tHv a i j fun _ => lkB tab c) := by
  obtain ⟨C, hC, ht⟩ := ic.ex
  obtain ⟨h1, h2⟩ := ht _ (lkB_mem hc) D hD
  exact PE.imp (pe_callB (X := X.suite a ((a, oe) :: pn)) (call_isE h1 hz hf) hg hm (by decide +kernel) (pa_cons (pe_var (X := X.suite a ((a, oe) :: pn)) hi (.inl hln) hd hcd) (pa_cons (pe_glob (X := X.suite a ((a, oe) :: pn)) (v := .ref C) hg2 hC rfl hdb) pa_nil) hs) (by decide) (by decide) hs hpl) fun σ H Q q => by
    obtain ⟨h3, b, hb, q⟩ := q
    exact ⟨.ref a, h3, .ref C, .ref C, _, rfl, fun u h => h, h2, q⟩
theorem h_isB {T : String} (ib : IsB X.K X.mg T tab) (hc : c ∈ tab.map (·.1)) (hD : X.mg c = some (.ref D)) (hz : Zc (.ref D) none oe) (hf : ∃ vs, oe.data = .fields vs) (hi : X.N[i]? = some n) (hln : X.env.scope.names.lookup n = some .local) (hd : (n == ("__debug__" : Str)) = false) (hcd : (n == ("__classdict__" : Str)) = false)
    (hg2 : Gl X x) (hm2 : X.mg x = none) (hv : bootBuiltins x = some (.type T)) (hm : X.mg "isinstance" = none) (hg : Gl X "isinstance" := by rfl) (hdb : (x == ("__debug__" : Str)) = false := by decide) (hn : x ≠ "__name__" := by decide)
    (hs : starEach [.Name n p3, .Name x p2] X.env = (false, eval (.Name n p3) X.env) :: starEach [.Name x p2] X.env := by rfl) (hpl : (backTo pos (starEach [.Name x p2] X.env)).any (·.1) = false := by rfl) :
    PE (X.suite a ((a, oe) :: pn)) (.Call (.Name "isinstance" p) [.Name n p3, .Name x p2] [] pos) (tHv a i j fun _ => lkB tab c) := by
  obtain ⟨h1, h2⟩ := ib.ex _ (lkB_mem hc) D hD
  exact PE.imp (pe_callB (X := X.suite a ((a, oe) :: pn)) (call_isE h1 hz hf) hg hm (by decide +kernel) (pa_cons (pe_var (X := X.suite a ((a, oe) :: pn)) hi (.inl hln) hd hcd) (pa_cons (pe_bltn (X := X.suite a ((a, oe) :: pn)) (v := .ty T) hg2 hm2 hv rfl hn hdb) pa_nil) hs) (by decide) (by decide) hs hpl) fun σ H Q q => by
    obtain ⟨h3, b, hb, q⟩ := q
    exact ⟨.ref a, h3, .ty T, .type T, _, rfl, fun u h => h, h2, q⟩
end
section
variable {X : Cx} {a : Addr} {i j : Nat} {f : Bool → Bool} {e : Expr} {m : Str} {pos p : Pos}
theorem h_set (hN : X.N.Nodup) (hj : X.N[j]? = some m) (hlm : X.env.scope.names.lookup m = some .local) (h : PE X e (tHv a i j f)) (hs : swapsWith e (some (.Name m p)) pos.line X.env = pure false := by rfl) : PS X (.Assign [.Name m p] e pos) (tHs a i j f) :=
  PS.imp (ps_set (i := j) hN hj (.inl hlm) h hs (.inr hlm)) fun Dn σ H q => by
    obtain ⟨h1, b, hb, q⟩ := q
    exact ⟨h1, b, hb, q⟩
end
/-- try: g / except .. as n: m = .., truths by the caught one's class; i is n's slot, j m's -/
def sTryB (cs : List Str) (i j : Nat) (hb : Str → Bool → Bool) (g : DS) : DS := fun env S => match g env S with
  | .ok p S1 => .ok p S1
  | .exc c S1 => match env[j]? with
    | some (some (.bl b)) => if c ∈ cs ∧ i < env.length then .ok (.nx, (env.set j (some (.bl (hb c b)))).set i none) S1 else .bad
    | _ => .bad
  | .bad => .bad
theorem ds_tryB {X : Cx} {E : XK} {x n : Str} {i j : Nat} {cs : List Str} {hb : Str → Bool → Bool} {body suite : List Stmt} {b₀ : Stmt} {g : DS} {np pos pos' : Pos} (hs : X.stack = X.env :: X.outer) (hf : X.env.frame = some X.env.locals) (hN : X.N.Nodup) (hij : i ≠ j)
    (ct : CatC X.K X.mg x cs) (hg : Gl X x) (tk : Takes X (WC E))
    (hbd : ∀ (W : WX) (pn : List (Addr × Obj)) (xe : Value → Shared → Prop), Takes (X.tr pn xe) W → PSs (X.tr pn xe) body (tSW (X.tr pn xe) W g))
    (hsu : ∀ c ∈ cs, ∀ D, X.mg c = some (.ref D) → ∀ (a : Addr) (oe : Obj) (pn : List (Addr × Obj)), Zc (.ref D) none oe → (∃ vs, oe.data = .fields vs) → PSs (X.suite a ((a, oe) :: pn)) (b₀ :: suite) (tHs a i j (hb c)))
    (hi : X.N[i]? = some n := by rfl) (hln : X.env.kindOf n = some .local := by rfl) (hdb : (x == ("__debug__" : Str)) = false := by decide) :
    PS X (.Try body [.ExceptHandler (some (.Name x np)) (some n) (b₀ :: suite) pos'] [] [] pos) (tS X E (sTryB cs i j hb g)) := by
  obtain ⟨C, hC, hmt⟩ := ct.ex
  refine PS.imp (ps_try_as (Wout := WC E) (ts := fun a cls d Dn σ H => ∃ c D, c ∈ cs ∧ X.mg c = some (.ref D) ∧ cls = .ref D ∧ d = none ∧ tHs a i j (hb c) Dn σ H) (tb := fun W => tSW X W g) hs hf hN hi hln ⟨hg, hdb, .inl hC⟩ tk (fun W pn xe h _ => hbd W pn xe h) fun a oe cls d pn hz hfl => ⟨fun pins s σ H Dn I q => ?_⟩) fun Dn σ H q => ?_
  · obtain ⟨c, D, hc, hD, e1, e2, q⟩ := q
    subst e1 e2
    exact (hsu c hc D hD a oe pn hz hfl).run pins s σ H Dn I q
  · obtain ⟨r, t, S, env, rel, q⟩ := q
    refine ⟨r, t, S, env, rel, ?_⟩
    unfold sTryB at q
    cases hgo : g env S with
    | ok p S1 => rw [hgo] at q; exact q
    | bad => rw [hgo] at q; exact (show False from q).elim
    | exc c S1 =>
      rw [hgo] at q
      dsimp only at q
      split at q
      · rename_i b hbj
        by_cases hc : c ∈ cs ∧ i < env.length
        · rw [if_pos hc] at q
          intro D H' r' hD ex so
          have hl : i < σ.length := by rw [← rel.len]; exact hc.2
          refine ⟨true, hmt c hc.1 D hD, fun _ a na => ⟨c, D, hc.1, hD, rfl, rfl, List.getElem?_set_self hl, b, ?_, ?_⟩, fun e => nomatch e⟩
          · rw [List.getElem?_set_ne hij]
            obtain ⟨v, hv, dv⟩ := (rel.ext ex so).en j _ hbj
            cases dv
            exact hv
          · refine q H' r' ex so _ ?_
            have e : ((σ.set i (some (.ref a))).set j (some (V.bl (hb c b)))).set i none = (σ.set j (some (V.bl (hb c b)))).set i none := by
              rw [List.set_comm _ _ hij, List.set_set]
            show Rel _ _ _ _ _ _ _ (((σ.set i (some (.ref a))).set j (some (V.bl (hb c b)))).set i none)
            rw [e]
            exact ((rel.ext ex so).set j (.bl (hb c b))).wipe i
        · rw [if_neg hc] at q
          exact (show False from q).elim
      · exact (show False from q).elim
section
variable {env : Ev} {S : Sto} {PF : Fl × Ev → Sto → Prop} {g : DS} {c : Str} {hb : Str → Bool → Bool}
theorem w_TryBX {cs : List Str} {i j : Nat} {b : Bool} (h : Ex (g env S) c fun S1 => PF (.nx, (env.set j (some (.bl (hb c b)))).set i none) S1) (hc : c ∈ cs) (hi : i < env.length) (hj : env[j]? = some (some (.bl b))) : Wp (sTryB cs i j hb g env S) PF := by
  obtain ⟨S1, e, q⟩ := h
  unfold sTryB
  rw [e]
  dsimp only
  rw [hj]
  dsimp only
  rw [if_pos ⟨hc, hi⟩]
  exact Wp.of rfl q
end
/-! ### e.f, where e is never told -/
def dNever (fe : DE) : DE := fun env S => (fe env S).bind fun _ _ => .bad
theorem de_attrN {X : Cx} {W : WX} {e : Expr} {fe : DE} {f : Str} {pos : Pos} (he : PE X e (tE X W fe)) (hb : attributeBase e f X.env (eval e X.env) = eval e X.env := by rfl) : PE X (.Attribute e f pos) (tE X W (dNever fe)) := by
  refine ⟨fun pins s σ H Q I q => ?_⟩
  obtain ⟨r, t, S, env, rel, g⟩ := q
  refine attr_of hb (thn (he.run pins s σ H (fun _ _ => False) I ⟨r, t, S, env, rel, g.bind.mono fun d S1 r1 H1 ex so g1 => (show False from g1).elim⟩) fun u s1 q => ?_)
  obtain ⟨_, _, _, _, z⟩ := q
  exact z.elim
end DL
end L2

set_option Elab.async false
set_option linter.all false
set_option maxRecDepth 100000
namespace L2
namespace DL
namespace G
open PySem PySem.Spec PyProof.Rows
section
variable {P : Program} {w : World} {K : PySem.W.Frag} {mg : Str → Option Value} {base : Heap}
def topS (i : Nat) : Stmt := PySem.Challenge.pw_meetwall_k04_no_houses.main.body.getD i (.Pass ⟨0, 0, 0, 0⟩)
/-! ### is_whole -/
abbrev st_is_whole : Stmt := topS 22
abbrev N_is_whole : List Str := ["thing"]
theorem sc_is_whole : FnScope N_is_whole ["thing"] (defScope st_is_whole) := ⟨rfl, rfl, rfl, by decide +kernel, rfl, by decide +kernel, by decide +kernel⟩
def d_is_whole : DS := (sRet (dAnd (dCall oIsInst (aCons (dVar 0) (aCons (dC (.ty "int")) aNil))) (dNot (dCall oIsInst (aCons (dVar 0) (aCons (dC (.ty "bool")) aNil))))))
def f_is_whole : Fn := dFun0 1 d_is_whole
theorem ok_is_whole {k : Nat} {f : Addr} {fd : FuncData} (F : Fun K "is_whole" "is_whole" st_is_whole f fd) (b : Binds K fd ["thing"] []) (m : mg "is_whole" = some (.ref f)) (m_isinstance : mg "isinstance" = none) (m_int : mg "int" = none) (m_bool : mg "bool" = none) : Callee P w K mg base CX0 (k + 1) "is_whole" 1 f_is_whole := by
  have sc := sc_is_whole
  refine ⟨f, fd, ["thing"], Fun.okD F sc rfl fun cdv A outer s H E hr => ?_, m, F.kp, b⟩
  exact (ds_one (ds_ret (de_and (de_callB cd_isinst rfl m_isinstance (by decide +kernel) (da_cons (de_var 0) (da_cons (de_ty rfl m_int (by decide +kernel)) da_nil))) (de_one (de_not (de_callB cd_isinst rfl m_isinstance (by decide +kernel) (da_cons (de_var 0) (da_cons (de_ty rfl m_bool (by decide +kernel)) da_nil))))))))
/-! ### is_from_to -/
abbrev st_is_from_to : Stmt := topS 23
abbrev N_is_from_to : List Str := ["thing", "least", "most"]
theorem sc_is_from_to : FnScope N_is_from_to ["thing", "least", "most"] (defScope st_is_from_to) := ⟨rfl, rfl, rfl, by decide +kernel, rfl, by decide +kernel, by decide +kernel⟩
def d_is_from_to : DS := (sRet (dAnd (dCallF f_is_whole (aCons (dVar 0) aNil)) (dChain oLe oLe (dVar 1) (dVar 0) (dVar 2))))
def f_is_from_to : Fn := dFun0 3 d_is_from_to
theorem ok_is_from_to {k : Nat} {f : Addr} {fd : FuncData} (F : Fun K "is_from_to" "is_from_to" st_is_from_to f fd) (b : Binds K fd ["thing", "least", "most"] []) (m : mg "is_from_to" = some (.ref f)) (c_is_whole : Callee P w K mg base CX0 k "is_whole" 1 f_is_whole) : Callee P w K mg base CX0 (k + 1) "is_from_to" 3 f_is_from_to := by
  have sc := sc_is_from_to
  refine ⟨f, fd, ["thing", "least", "most"], Fun.okD F sc rfl fun cdv A outer s H E hr => ?_, m, F.kp, b⟩
  exact (ds_one (ds_ret (de_and (de_callC c_is_whole hr thru0 (an_cons (de_var 0) an_nil)) (de_one (de_chain od_le od_le (de_var 1) (de_var 0) (de_var 2))))))
/-! ### is_word -/
abbrev st_is_word : Stmt := topS 24
abbrev N_is_word : List Str := ["thing", "sign"]
theorem sc_is_word : FnScope N_is_word ["thing"] (defScope st_is_word) := ⟨rfl, rfl, rfl, by decide +kernel, rfl, by decide +kernel, by decide +kernel⟩
def d_is_word : DS := (sSeq (sIf (bOr (bNot (dTst (dCall oIsInst (aCons (dVar 0) (aCons (dC (.ty "str")) aNil))))) (bNot (dTst (dChain oLe oLe (dC (.int 1)) (dCall oLen (aCons (dVar 0) aNil)) (dC (.int 8))))))
  (sRet (dC (.bl false)))
  sNil)
  (sRet (dCall oAll (aCons (dComp (iSeq (dVar 0)) (gN 1) [1] bYes (dBin (oIn false) (dVar 1) (dC (.str "abcdefghijklmnopqrstuvwxyz")))) aNil))))
def f_is_word : Fn := dFun0 2 d_is_word
theorem ok_is_word {k : Nat} {f : Addr} {fd : FuncData} (F : Fun K "is_word" "is_word" st_is_word f fd) (b : Binds K fd ["thing"] []) (m : mg "is_word" = some (.ref f)) (m_isinstance : mg "isinstance" = none) (m_str : mg "str" = none) (m_len : mg "len" = none) (m_all : mg "all" = none) (h_LETTERS : GlobIs K mg "LETTERS" (.str "abcdefghijklmnopqrstuvwxyz")) : Callee P w K mg base CX0 (k + 1) "is_word" 1 f_is_word := by
  have sc := sc_is_word
  refine ⟨f, fd, ["thing"], Fun.okD F sc rfl fun cdv A outer s H E hr => ?_, m, F.kp, b⟩
  exact (ds_cons (ds_if (PW.pt (dw_or (dt_not (dt_val (de_callB cd_isinst rfl m_isinstance (by decide +kernel) (da_cons (de_var 0) (da_cons (de_ty rfl m_str (by decide +kernel)) da_nil))))) (dw_or1 (dt_not (dt_chain od_le od_le de_int (de_callB cd_len rfl m_len PySem.boot_len (da_cons (de_var 0) da_nil)) de_int)))))
  (ds_one (ds_ret de_bl))
  ds_nil)
  (ds_one (ds_ret (de_callB (cd_all (by rfl)) rfl m_all (by decide +kernel) (da_cons (de_comp (own := [("sign", 1)]) (by rfl) sc.nd (di_seq (de_var 0)) (blkOk_by (own := [("sign", 1)]) (N := N_is_word) (sc := defScope st_is_word) (by decide +kernel)) (by decide) (fun _ _ _ _ _ => (dg_name 1 sc.nd)) (fun _ _ _ _ _ => dts_nil) (fun _ _ _ _ _ => (de_cmp (od_in (hu65 hr)) (de_var 1) (de_globI h_LETTERS) (by rfl)))) da_nil)))))
/-! ### is_members -/
abbrev st_is_members : Stmt := topS 25
abbrev N_is_members : List Str := ["walls", "thing", "last", "member"]
theorem sc_is_members : FnScope N_is_members ["walls", "thing"] (defScope st_is_members) := ⟨rfl, rfl, rfl, by decide +kernel, rfl, by decide +kernel, by decide +kernel⟩
def d_is_members : DS := (sSeq (sIf (bNot (dTst (dCall oIsInst (aCons (dVar 1) (aCons (dC (.ty "tuple")) aNil)))))
  (sRet (dC (.bl false)))
  sNil)
  (sSeq (sSet 2 (dUn oNeg (dC (.int 1))))
  (sSeq (sFor (iSeq (dVar 1)) (gN 3)
  (sSeq (sIf (bOr (bNot (dTst (dCall oIsInst (aCons (dVar 3) (aCons (dC (.ty "tuple")) aNil))))) (bOr (dTst (dBin oNe (dCall oLen (aCons (dVar 3) aNil)) (dC (.int 2)))) (bNot (dTst (dCallF f_is_from_to (aCons (dBin oIx (dVar 3) (dC (.int 0))) (aCons (dBin oAdd (dVar 2) (dC (.int 1))) (aCons (dBin oSub (dVar 0) (dC (.int 1))) aNil))))))))
  (sRet (dC (.bl false)))
  sNil)
  (sSeq (sIf (bOr (bNot (dTst (dCall oIsInst (aCons (dBin oIx (dVar 3) (dC (.int 1))) (aCons (dC (.ty "str")) aNil))))) (dTst (dInG true ["both", "come", "go"] (dBin oIx (dVar 3) (dC (.int 1))))))
  (sRet (dC (.bl false)))
  sNil)
  (sSet 2 (dBin oIx (dVar 3) (dC (.int 0)))))))
  (sRet (dC (.bl true))))))
def f_is_members : Fn := dFun0 4 d_is_members
theorem ok_is_members {k : Nat} {f : Addr} {fd : FuncData} (F : Fun K "is_members" "is_members" st_is_members f fd) (b : Binds K fd ["walls", "thing"] []) (m : mg "is_members" = some (.ref f)) (c_is_from_to : Callee P w K mg base CX0 k "is_from_to" 3 f_is_from_to) (m_isinstance : mg "isinstance" = none) (m_tuple : mg "tuple" = none) (m_len : mg "len" = none) (m_str : mg "str" = none) (h_MODES : GlobT K mg "MODES" ["both", "come", "go"]) : Callee P w K mg base CX0 (k + 1) "is_members" 2 f_is_members := by
  have sc := sc_is_members
  refine ⟨f, fd, ["walls", "thing"], Fun.okD F sc rfl fun cdv A outer s H E hr => ?_, m, F.kp, b⟩
  exact (ds_cons (ds_if (dt_not (dt_val (de_callB cd_isinst rfl m_isinstance (by decide +kernel) (da_cons (de_var 1) (da_cons (de_ty rfl m_tuple (by decide +kernel)) da_nil)))))
  (ds_one (ds_ret de_bl))
  ds_nil)
  (ds_cons (ds_set 2 sc.nd (de_un ud_neg de_int))
  (ds_cons (ds_for PassesOwn.never (by rfl) (di_seq (de_var 1)) (dg_name 3 sc.nd)
  (ds_cons (ds_if (PW.pt (dw_or (dt_not (dt_val (de_callB cd_isinst rfl m_isinstance (by decide +kernel) (da_cons (de_var 3) (da_cons (de_ty rfl m_tuple (by decide +kernel)) da_nil))))) (dw_or (dt_cmp (od_ne hr.units) (de_callB cd_len rfl m_len PySem.boot_len (da_cons (de_var 3) da_nil)) de_int (nomark _)) (dw_or1 (dt_not (dt_val (de_callC c_is_from_to hr thru0 (an_cons (de_ix xd_ix (de_var 3) de_int (fun _ _ => rfl)) (an_cons (de_bin od_add (de_var 2) de_int) (an_cons (de_bin od_sub (de_var 0) de_int) an_nil))))))))))
  (ds_one (ds_ret de_bl))
  ds_nil)
  (ds_cons (ds_if (PW.pt (dw_or (dt_not (dt_val (de_callB cd_isinst rfl m_isinstance (by decide +kernel) (da_cons (de_ix xd_ix (de_var 3) de_int (fun _ _ => rfl)) (da_cons (de_ty rfl m_str (by decide +kernel)) da_nil))))) (dw_or1 (dt_notInG h_MODES (de_ix xd_ix (de_var 3) de_int (fun _ _ => rfl)) rfl (by rfl)))))
  (ds_one (ds_ret de_bl))
  ds_nil)
  (ds_one (ds_set 2 sc.nd (de_ix xd_ix (de_var 3) de_int (fun _ _ => rfl)))))))
  (ds_one (ds_ret de_bl)))))
/-! ### is_deed -/
abbrev st_is_deed : Stmt := topS 26
abbrev N_is_deed : List Str := ["boxes", "walls", "scripts", "at", "thing"]
theorem sc_is_deed : FnScope N_is_deed ["boxes", "walls", "scripts", "at", "thing"] (defScope st_is_deed) := ⟨rfl, rfl, rfl, by decide +kernel, rfl, by decide +kernel, by decide +kernel⟩
def d_is_deed : DS := (sSeq (sIf (bOr (bNot (dTst (dCall oIsInst (aCons (dVar 4) (aCons (dC (.ty "tuple")) aNil))))) (bOr (dTst (dBin oLt (dCall oLen (aCons (dVar 4) aNil)) (dC (.int 2)))) (bNot (dTst (dCall oIsInst (aCons (dBin oIx (dVar 4) (dC (.int 0))) (aCons (dC (.ty "str")) aNil)))))))
  (sRet (dC (.bl false)))
  sNil)
  (sSeq (sIf (dTst (dBin oEq (dCall oLen (aCons (dVar 4) aNil)) (dC (.int 3))))
  (sSeq (sIf (dTst (dBin oEq (dBin oIx (dVar 4) (dC (.int 0))) (dC (.str "raise"))))
  (sRet (dAnd (dCallF f_is_from_to (aCons (dBin oIx (dVar 4) (dC (.int 1))) (aCons (dC (.int 0)) (aCons (dBin oSub (dVar 0) (dC (.int 1))) aNil)))) (dCallF f_is_from_to (aCons (dBin oIx (dVar 4) (dC (.int 2))) (aCons (dC (.int 1)) (aCons (dC (.int 99)) aNil))))))
  sNil)
  (sSeq (sIf (dTst (dBin oEq (dBin oIx (dVar 4) (dC (.int 0))) (dC (.str "await"))))
  (sRet (dAnd (dCallF f_is_from_to (aCons (dBin oIx (dVar 4) (dC (.int 1))) (aCons (dC (.int 0)) (aCons (dBin oSub (dVar 0) (dC (.int 1))) aNil)))) (dCallF f_is_from_to (aCons (dBin oIx (dVar 4) (dC (.int 2))) (aCons (dC (.int 1)) (aCons (dC (.int 9999)) aNil))))))
  sNil)
  (sRet (dAnd (dBin oEq (dBin oIx (dVar 4) (dC (.int 0))) (dC (.str "begin"))) (dAnd (dCallF f_is_from_to (aCons (dBin oIx (dVar 4) (dC (.int 1))) (aCons (dBin oAdd (dVar 3) (dC (.int 1))) (aCons (dBin oSub (dVar 2) (dC (.int 1))) aNil)))) (dCallF f_is_members (aCons (dVar 1) (aCons (dBin oIx (dVar 4) (dC (.int 2))) aNil))))))))
  sNil)
  (sSeq (sIf (dTst (dBin oNe (dCall oLen (aCons (dVar 4) aNil)) (dC (.int 2))))
  (sRet (dC (.bl false)))
  sNil)
  (sSeq (sIf (dTst (dBin oEq (dBin oIx (dVar 4) (dC (.int 0))) (dC (.str "work"))))
  (sRet (dCallF f_is_from_to (aCons (dBin oIx (dVar 4) (dC (.int 1))) (aCons (dC (.int 0)) (aCons (dC (.int 999)) aNil)))))
  sNil)
  (sSeq (sIf (dTst (dBin oEq (dBin oIx (dVar 4) (dC (.int 0))) (dC (.str "say"))))
  (sRet (dCallF f_is_word (aCons (dBin oIx (dVar 4) (dC (.int 1))) aNil)))
  sNil)
  (sRet (dAnd (dBin (oIn false) (dBin oIx (dVar 4) (dC (.int 0))) (dTup (aCons (dC (.str "come")) (aCons (dC (.str "go")) (aCons (dC (.str "leave")) aNil))))) (dCallF f_is_from_to (aCons (dBin oIx (dVar 4) (dC (.int 1))) (aCons (dC (.int 0)) (aCons (dBin oSub (dVar 1) (dC (.int 1))) aNil)))))))))))
def f_is_deed : Fn := dFun0 5 d_is_deed
theorem ok_is_deed {k : Nat} {f : Addr} {fd : FuncData} (F : Fun K "is_deed" "is_deed" st_is_deed f fd) (b : Binds K fd ["boxes", "walls", "scripts", "at", "thing"] []) (m : mg "is_deed" = some (.ref f)) (c_is_from_to : Callee P w K mg base CX0 k "is_from_to" 3 f_is_from_to) (c_is_members : Callee P w K mg base CX0 k "is_members" 2 f_is_members) (c_is_word : Callee P w K mg base CX0 k "is_word" 1 f_is_word) (m_isinstance : mg "isinstance" = none) (m_tuple : mg "tuple" = none) (m_len : mg "len" = none) (m_str : mg "str" = none) : Callee P w K mg base CX0 (k + 1) "is_deed" 5 f_is_deed := by
  have sc := sc_is_deed
  refine ⟨f, fd, ["boxes", "walls", "scripts", "at", "thing"], Fun.okD F sc rfl fun cdv A outer s H E hr => ?_, m, F.kp, b⟩
  exact (ds_cons (ds_if (PW.pt (dw_or (dt_not (dt_val (de_callB cd_isinst rfl m_isinstance (by decide +kernel) (da_cons (de_var 4) (da_cons (de_ty rfl m_tuple (by decide +kernel)) da_nil))))) (dw_or (dt_cmp od_lt (de_callB cd_len rfl m_len PySem.boot_len (da_cons (de_var 4) da_nil)) de_int (nomark _)) (dw_or1 (dt_not (dt_val (de_callB cd_isinst rfl m_isinstance (by decide +kernel) (da_cons (de_ix xd_ix (de_var 4) de_int (fun _ _ => rfl)) (da_cons (de_ty rfl m_str (by decide +kernel)) da_nil)))))))))
  (ds_one (ds_ret de_bl))
  ds_nil)
  (ds_cons (ds_if (dt_cmp (od_eq hr.units) (de_callB cd_len rfl m_len PySem.boot_len (da_cons (de_var 4) da_nil)) de_int (nomark _))
  (ds_cons (ds_if (dt_cmp (od_eq hr.units) (de_ix xd_ix (de_var 4) de_int (fun _ _ => rfl)) de_str (nomark _))
  (ds_one (ds_ret (de_and (de_callC c_is_from_to hr thru0 (an_cons (de_ix xd_ix (de_var 4) de_int (fun _ _ => rfl)) (an_cons de_int (an_cons (de_bin od_sub (de_var 0) de_int) an_nil)))) (de_one (de_callC c_is_from_to hr thru0 (an_cons (de_ix xd_ix (de_var 4) de_int (fun _ _ => rfl)) (an_cons de_int (an_cons de_int an_nil))))))))
  ds_nil)
  (ds_cons (ds_if (dt_cmp (od_eq hr.units) (de_ix xd_ix (de_var 4) de_int (fun _ _ => rfl)) de_str (nomark _))
  (ds_one (ds_ret (de_and (de_callC c_is_from_to hr thru0 (an_cons (de_ix xd_ix (de_var 4) de_int (fun _ _ => rfl)) (an_cons de_int (an_cons (de_bin od_sub (de_var 0) de_int) an_nil)))) (de_one (de_callC c_is_from_to hr thru0 (an_cons (de_ix xd_ix (de_var 4) de_int (fun _ _ => rfl)) (an_cons de_int (an_cons de_int an_nil))))))))
  ds_nil)
  (ds_one (ds_ret (de_and (de_cmp (od_eq hr.units) (de_ix xd_ix (de_var 4) de_int (fun _ _ => rfl)) de_str (nomark _)) (de_and (de_callC c_is_from_to hr thru0 (an_cons (de_ix xd_ix (de_var 4) de_int (fun _ _ => rfl)) (an_cons (de_bin od_add (de_var 3) de_int) (an_cons (de_bin od_sub (de_var 2) de_int) an_nil)))) (de_one (de_callC c_is_members hr thru0 (an_cons (de_var 1) (an_cons (de_ix xd_ix (de_var 4) de_int (fun _ _ => rfl)) an_nil))))))))))
  ds_nil)
  (ds_cons (ds_if (dt_cmp (od_ne hr.units) (de_callB cd_len rfl m_len PySem.boot_len (da_cons (de_var 4) da_nil)) de_int (nomark _))
  (ds_one (ds_ret de_bl))
  ds_nil)
  (ds_cons (ds_if (dt_cmp (od_eq hr.units) (de_ix xd_ix (de_var 4) de_int (fun _ _ => rfl)) de_str (nomark _))
  (ds_one (ds_ret (de_callC c_is_from_to hr thru0 (an_cons (de_ix xd_ix (de_var 4) de_int (fun _ _ => rfl)) (an_cons de_int (an_cons de_int an_nil))))))
  ds_nil)
  (ds_cons (ds_if (dt_cmp (od_eq hr.units) (de_ix xd_ix (de_var 4) de_int (fun _ _ => rfl)) de_str (nomark _))
  (ds_one (ds_ret (de_callC c_is_word hr thru0 (an_cons (de_ix xd_ix (de_var 4) de_int (fun _ _ => rfl)) an_nil))))
  ds_nil)
  (ds_one (ds_ret (de_and (de_cmp (od_in (hu65 hr)) (de_ix xd_ix (de_var 4) de_int (fun _ _ => rfl)) (de_tup (da_cons de_str (da_cons de_str (da_cons de_str da_nil)))) (by rfl)) (de_one (de_callC c_is_from_to hr thru0 (an_cons (de_ix xd_ix (de_var 4) de_int (fun _ _ => rfl)) (an_cons de_int (an_cons (de_bin od_sub (de_var 1) de_int) an_nil)))))))))))))
/-! ### is_calling -/
abbrev st_is_calling : Stmt := topS 27
abbrev N_is_calling : List Str := ["walls", "scripts", "thing"]
theorem sc_is_calling : FnScope N_is_calling ["walls", "scripts", "thing"] (defScope st_is_calling) := ⟨rfl, rfl, rfl, by decide +kernel, rfl, by decide +kernel, by decide +kernel⟩
def d_is_calling : DS := (sSeq (sIf (bOr (bNot (dTst (dCall oIsInst (aCons (dVar 2) (aCons (dC (.ty "tuple")) aNil))))) (dTst (dBin oNe (dCall oLen (aCons (dVar 2) aNil)) (dC (.int 2)))))
  (sRet (dC (.bl false)))
  sNil)
  (sRet (dAnd (dCallF f_is_from_to (aCons (dBin oIx (dVar 2) (dC (.int 0))) (aCons (dC (.int 0)) (aCons (dBin oSub (dVar 1) (dC (.int 1))) aNil)))) (dCallF f_is_members (aCons (dVar 0) (aCons (dBin oIx (dVar 2) (dC (.int 1))) aNil))))))
def f_is_calling : Fn := dFun0 3 d_is_calling
theorem ok_is_calling {k : Nat} {f : Addr} {fd : FuncData} (F : Fun K "is_calling" "is_calling" st_is_calling f fd) (b : Binds K fd ["walls", "scripts", "thing"] []) (m : mg "is_calling" = some (.ref f)) (c_is_from_to : Callee P w K mg base CX0 k "is_from_to" 3 f_is_from_to) (c_is_members : Callee P w K mg base CX0 k "is_members" 2 f_is_members) (m_isinstance : mg "isinstance" = none) (m_tuple : mg "tuple" = none) (m_len : mg "len" = none) : Callee P w K mg base CX0 (k + 1) "is_calling" 3 f_is_calling := by
  have sc := sc_is_calling
  refine ⟨f, fd, ["walls", "scripts", "thing"], Fun.okD F sc rfl fun cdv A outer s H E hr => ?_, m, F.kp, b⟩
  exact (ds_cons (ds_if (PW.pt (dw_or (dt_not (dt_val (de_callB cd_isinst rfl m_isinstance (by decide +kernel) (da_cons (de_var 2) (da_cons (de_ty rfl m_tuple (by decide +kernel)) da_nil))))) (dw_or1 (dt_cmp (od_ne hr.units) (de_callB cd_len rfl m_len PySem.boot_len (da_cons (de_var 2) da_nil)) de_int (nomark _)))))
  (ds_one (ds_ret de_bl))
  ds_nil)
  (ds_one (ds_ret (de_and (de_callC c_is_from_to hr thru0 (an_cons (de_ix xd_ix (de_var 2) de_int (fun _ _ => rfl)) (an_cons de_int (an_cons (de_bin od_sub (de_var 1) de_int) an_nil)))) (de_one (de_callC c_is_members hr thru0 (an_cons (de_var 0) (an_cons (de_ix xd_ix (de_var 2) de_int (fun _ _ => rfl)) an_nil))))))))
/-! ### is_script -/
abbrev st_is_script : Stmt := topS 28
abbrev N_is_script : List Str := ["boxes", "walls", "scripts", "at", "thing", "deed"]
theorem sc_is_script : FnScope N_is_script ["boxes", "walls", "scripts", "at", "thing"] (defScope st_is_script) := ⟨rfl, rfl, rfl, by decide +kernel, rfl, by decide +kernel, by decide +kernel⟩
def d_is_script : DS := (sSeq (sIf (bOr (bNot (dTst (dCall oIsInst (aCons (dVar 4) (aCons (dC (.ty "tuple")) aNil))))) (dTst (dBin oGt (dCall oLen (aCons (dVar 4) aNil)) (dC (.int 80)))))
  (sRet (dC (.bl false)))
  sNil)
  (sRet (dCall oAll (aCons (dComp (iSeq (dVar 4)) (gN 5) [5] bYes (dCallF f_is_deed (aCons (dVar 0) (aCons (dVar 1) (aCons (dVar 2) (aCons (dVar 3) (aCons (dVar 5) aNil))))))) aNil))))
def f_is_script : Fn := dFun0 6 d_is_script
theorem ok_is_script {k : Nat} {f : Addr} {fd : FuncData} (F : Fun K "is_script" "is_script" st_is_script f fd) (b : Binds K fd ["boxes", "walls", "scripts", "at", "thing"] []) (m : mg "is_script" = some (.ref f)) (c_is_deed : Callee P w K mg base CX0 k "is_deed" 5 f_is_deed) (m_isinstance : mg "isinstance" = none) (m_tuple : mg "tuple" = none) (m_len : mg "len" = none) (m_all : mg "all" = none) (h_MOST_DEEDS : GlobIs K mg "MOST_DEEDS" (.int 80)) : Callee P w K mg base CX0 (k + 1) "is_script" 5 f_is_script := by
  have sc := sc_is_script
  refine ⟨f, fd, ["boxes", "walls", "scripts", "at", "thing"], Fun.okD F sc rfl fun cdv A outer s H E hr => ?_, m, F.kp, b⟩
  exact (ds_cons (ds_if (PW.pt (dw_or (dt_not (dt_val (de_callB cd_isinst rfl m_isinstance (by decide +kernel) (da_cons (de_var 4) (da_cons (de_ty rfl m_tuple (by decide +kernel)) da_nil))))) (dw_or1 (dt_cmp od_gt (de_callB cd_len rfl m_len PySem.boot_len (da_cons (de_var 4) da_nil)) (de_globI h_MOST_DEEDS) (nomark _)))))
  (ds_one (ds_ret de_bl))
  ds_nil)
  (ds_one (ds_ret (de_callB (cd_all (by rfl)) rfl m_all (by decide +kernel) (da_cons (de_comp (own := [("deed", 5)]) (by rfl) sc.nd (di_seq (de_var 4)) (blkOk_by (own := [("deed", 5)]) (N := N_is_script) (sc := defScope st_is_script) (by decide +kernel)) (by decide) (fun _ _ _ _ _ => (dg_name 5 sc.nd)) (fun _ _ _ _ _ => dts_nil) (fun _ _ _ _ _ => (de_callC c_is_deed hr thru0 (an_cons (de_var 0) (an_cons (de_var 1) (an_cons (de_var 2) (an_cons (de_var 3) (an_cons (de_var 5) an_nil)))))))) da_nil)))))
/-! ### has_mode -/
abbrev st_has_mode : Stmt := topS 29
abbrev N_has_mode : List Str := ["have", "wall", "modes"]
theorem sc_has_mode : FnScope N_has_mode ["have", "wall", "modes"] (defScope st_has_mode) := ⟨rfl, rfl, rfl, by decide +kernel, rfl, by decide +kernel, by decide +kernel⟩
def d_has_mode : DS := (sRet (dAnd (dBin (oInT false) (dVar 1) (dVar 0)) (dBin (oIn false) (dBin oGetT (dVar 0) (dVar 1)) (dVar 2))))
def f_has_mode : Fn := dFun0 3 d_has_mode
theorem ok_has_mode {k : Nat} {f : Addr} {fd : FuncData} (F : Fun K "has_mode" "has_mode" st_has_mode f fd) (b : Binds K fd ["have", "wall", "modes"] []) (m : mg "has_mode" = some (.ref f)) : Callee P w K mg base CX0 (k + 1) "has_mode" 3 f_has_mode := by
  have sc := sc_has_mode
  refine ⟨f, fd, ["have", "wall", "modes"], Fun.okD F sc rfl fun cdv A outer s H E hr => ?_, m, F.kp, b⟩
  exact (ds_one (ds_ret (de_and (de_cmp (od_inT (hu1 hr)) (de_var 1) (de_var 0) (by rfl)) (de_one (de_cmp (od_in (hu65 hr)) (de_getT (hu1 hr) (de_var 0) (de_var 1) (fun _ _ => rfl)) (de_var 2) (by rfl))))))
/-! ### may_do_with -/
abbrev st_may_do_with : Stmt := topS 30
abbrev N_may_do_with : List Str := ["have", "deed", "wall", "mode"]
theorem sc_may_do_with : FnScope N_may_do_with ["have", "deed"] (defScope st_may_do_with) := ⟨rfl, rfl, rfl, by decide +kernel, rfl, by decide +kernel, by decide +kernel⟩
def d_may_do_with : DS := (sSeq (sIf (dTst (dBin oEq (dBin oIx (dVar 1) (dC (.int 0))) (dC (.str "come"))))
  (sRet (dCallF f_has_mode (aCons (dVar 0) (aCons (dBin oIx (dVar 1) (dC (.int 1))) (aCons (dTup (aCons (dC (.str "both")) (aCons (dC (.str "come")) aNil))) aNil)))))
  sNil)
  (sSeq (sIf (dTst (dBin oEq (dBin oIx (dVar 1) (dC (.int 0))) (dC (.str "go"))))
  (sRet (dCallF f_has_mode (aCons (dVar 0) (aCons (dBin oIx (dVar 1) (dC (.int 1))) (aCons (dTup (aCons (dC (.str "both")) (aCons (dC (.str "go")) aNil))) aNil)))))
  sNil)
  (sSeq (sIf (dTst (dBin oEq (dBin oIx (dVar 1) (dC (.int 0))) (dC (.str "leave"))))
  (sRet (dBin (oInT false) (dBin oIx (dVar 1) (dC (.int 1))) (dVar 0)))
  sNil)
  (sSeq (sIf (dTst (dBin oEq (dBin oIx (dVar 1) (dC (.int 0))) (dC (.str "begin"))))
  (sRet (dCall oAll (aCons (dComp (iSeq (dBin oIx (dVar 1) (dC (.int 2)))) (gTupD 2 (gsCons (gN 2) (gsCons (gN 3) gsNil))) [2, 3] bYes (dCallF f_has_mode (aCons (dVar 0) (aCons (dVar 2) (aCons (dTup (aCons (dVar 3) (aCons (dC (.str "both")) aNil))) aNil))))) aNil)))
  sNil)
  (sRet (dC (.bl true)))))))
def f_may_do_with : Fn := dFun0 4 d_may_do_with
theorem ok_may_do_with {k : Nat} {f : Addr} {fd : FuncData} (F : Fun K "may_do_with" "may_do_with" st_may_do_with f fd) (b : Binds K fd ["have", "deed"] []) (m : mg "may_do_with" = some (.ref f)) (c_has_mode : Callee P w K mg base CX0 k "has_mode" 3 f_has_mode) (m_all : mg "all" = none) : Callee P w K mg base CX0 (k + 1) "may_do_with" 2 f_may_do_with := by
  have sc := sc_may_do_with
  refine ⟨f, fd, ["have", "deed"], Fun.okD F sc rfl fun cdv A outer s H E hr => ?_, m, F.kp, b⟩
  exact (ds_cons (ds_if (dt_cmp (od_eq hr.units) (de_ix xd_ix (de_var 1) de_int (fun _ _ => rfl)) de_str (nomark _))
  (ds_one (ds_ret (de_callC c_has_mode hr thru0 (an_cons (de_var 0) (an_cons (de_ix xd_ix (de_var 1) de_int (fun _ _ => rfl)) (an_cons (de_tup (da_cons de_str (da_cons de_str da_nil))) an_nil))))))
  ds_nil)
  (ds_cons (ds_if (dt_cmp (od_eq hr.units) (de_ix xd_ix (de_var 1) de_int (fun _ _ => rfl)) de_str (nomark _))
  (ds_one (ds_ret (de_callC c_has_mode hr thru0 (an_cons (de_var 0) (an_cons (de_ix xd_ix (de_var 1) de_int (fun _ _ => rfl)) (an_cons (de_tup (da_cons de_str (da_cons de_str da_nil))) an_nil))))))
  ds_nil)
  (ds_cons (ds_if (dt_cmp (od_eq hr.units) (de_ix xd_ix (de_var 1) de_int (fun _ _ => rfl)) de_str (nomark _))
  (ds_one (ds_ret (de_cmp (od_inT (hu1 hr)) (de_ix xd_ix (de_var 1) de_int (fun _ _ => rfl)) (de_var 0) (by rfl))))
  ds_nil)
  (ds_cons (ds_if (dt_cmp (od_eq hr.units) (de_ix xd_ix (de_var 1) de_int (fun _ _ => rfl)) de_str (nomark _))
  (ds_one (ds_ret (de_callB (cd_all (by rfl)) rfl m_all (by decide +kernel) (da_cons (de_comp (own := [("wall", 2), ("mode", 3)]) (by rfl) sc.nd (di_seq (de_ix xd_ix (de_var 1) de_int (fun _ _ => rfl))) (blkOk_by (own := [("wall", 2), ("mode", 3)]) (N := N_may_do_with) (sc := defScope st_may_do_with) (by decide +kernel)) (by decide) (fun _ _ _ _ _ => (dg_tup (by rfl) (dgs_cons (dg_name 2 sc.nd) (dgs_cons (dg_name 3 sc.nd) dgs_nil)))) (fun _ _ _ _ _ => dts_nil) (fun _ _ _ _ _ => (de_callC c_has_mode hr thru0 (an_cons (de_var 0) (an_cons (de_var 2) (an_cons (de_tup (da_cons (de_var 3) (da_cons de_str da_nil))) an_nil)))))) da_nil))))
  ds_nil)
  (ds_one (ds_ret de_bl))))))
/-! ### script_fits -/
abbrev st_script_fits : Stmt := topS 31
abbrev N_script_fits : List Str := ["script", "members", "have", "wall", "mode", "deed"]
theorem sc_script_fits : FnScope N_script_fits ["script", "members"] (defScope st_script_fits) := ⟨rfl, rfl, rfl, by decide +kernel, rfl, by decide +kernel, by decide +kernel⟩
def d_script_fits : DS := (sSeq (sSet 2 (dNewK))
  (sSeq (sFor (iSeq (dVar 1)) (gTupD 2 (gsCons (gN 3) (gsCons (gN 4) gsNil)))
  (sPutT (dVar 2) (dVar 3) (dVar 4)))
  (sSeq (sFor (iSeq (dVar 0)) (gN 5)
  (sSeq (sIf (bNot (dTst (dCallF f_may_do_with (aCons (dVar 2) (aCons (dVar 5) aNil)))))
  (sRet (dC (.bl false)))
  sNil)
  (sIf (dTst (dBin oEq (dBin oIx (dVar 5) (dC (.int 0))) (dC (.str "leave"))))
  (sExpr (dPopK (dVar 2) (dBin oIx (dVar 5) (dC (.int 1)))))
  sNil)))
  (sRet (dC (.bl true))))))
noncomputable def f_script_fits : Fn := frzF (dFun0 6 d_script_fits)
theorem ok_script_fits {k : Nat} {f : Addr} {fd : FuncData} (F : Fun K "script_fits" "script_fits" st_script_fits f fd) (b : Binds K fd ["script", "members"] []) (m : mg "script_fits" = some (.ref f)) (c_may_do_with : Callee P w K mg base CX0 k "may_do_with" 2 f_may_do_with) : Callee P w K mg base CX0 (k + 1) "script_fits" 2 f_script_fits := by
  have sc := sc_script_fits
  refine Callee.frz ⟨f, fd, ["script", "members"], Fun.okD F sc rfl fun cdv A outer s H E hr => ?_, m, F.kp, b⟩
  exact (ds_cons (ds_set 2 sc.nd de_newK)
  (ds_cons (ds_for PassesOwn.never (by rfl) (di_seq (de_var 1)) (dg_tup (by rfl) (dgs_cons (dg_name 3 sc.nd) (dgs_cons (dg_name 4 sc.nd) dgs_nil)))
  (ds_one (ds_putT (hu1 hr) (de_var 2) (de_var 3) (de_var 4))))
  (ds_cons (ds_for PassesOwn.never (by rfl) (di_seq (de_var 0)) (dg_name 5 sc.nd)
  (ds_cons (ds_if (dt_not (dt_val (de_callC c_may_do_with hr thru0 (an_cons (de_var 2) (an_cons (de_var 5) an_nil)))))
  (ds_one (ds_ret de_bl))
  ds_nil)
  (ds_one (ds_if (dt_cmp (od_eq hr.units) (de_ix xd_ix (de_var 5) de_int (fun _ _ => rfl)) de_str (nomark _))
  (ds_one (ds_expr (de_popK (de_var 2) (de_ix xd_ix (de_var 5) de_int (fun _ _ => rfl)) ⟨by rfl, by rfl, by rfl, by rfl⟩)))
  ds_nil))))
  (ds_one (ds_ret de_bl)))))
/-! ### are_called_well -/
abbrev st_are_called_well : Stmt := topS 32
abbrev N_are_called_well : List Str := ["firsts", "scripts", "called", "deeds", "at", "script", "deed"]
theorem sc_are_called_well : FnScope N_are_called_well ["firsts", "scripts"] (defScope st_are_called_well) := ⟨rfl, rfl, rfl, by decide +kernel, rfl, by decide +kernel, by decide +kernel⟩
noncomputable def d_are_called_well : DS := (sSeq (sSet 2 (dCallN oListN (aCons (dVar 0) aNil)))
  (sSeq (sSet 3 (dC (.int 0)))
  (sSeq (sSet 4 (dC (.int 0)))
  (sSeq (sWhile (dTst (dBin oLt (dVar 4) (dCall oLen (aCons (dVar 2) aNil))))
  (sSeq (sSet 5 (dBin oIx (dVar 1) (dBin oIx (dBin oIx (dVar 2) (dVar 4)) (dC (.int 0)))))
  (sSeq (sSet 3 (dBin oAdd (dVar 3) (dCall oLen (aCons (dVar 5) aNil))))
  (sSeq (sIf (bOr (dTst (dBin oGt (dCall oLen (aCons (dVar 2) aNil)) (dC (.int 60)))) (bOr (dTst (dBin oGt (dVar 3) (dC (.int 1200)))) (bNot (dTst (dCallF f_script_fits (aCons (dVar 5) (aCons (dBin oIx (dBin oIx (dVar 2) (dVar 4)) (dC (.int 1))) aNil)))))))
  (sRet (dC (.bl false)))
  sNil)
  (sSeq (sExpr (dExtend (dVar 2) (dComp (iSeq (dVar 5)) (gN 6) [6] (dTst (dBin oEq (dBin oIx (dVar 6) (dC (.int 0))) (dC (.str "begin")))) (dSl oSl (dVar 6) (oSo (dC (.int 1))) oNo))))
  (sSet 4 (dBin oAdd (dVar 4) (dC (.int 1)))))))))
  (sRet (dC (.bl true)))))))
noncomputable def f_are_called_well : Fn := frzF (dFun0 7 d_are_called_well)
theorem ok_are_called_well {k : Nat} {f : Addr} {fd : FuncData} (F : Fun K "are_called_well" "are_called_well" st_are_called_well f fd) (b : Binds K fd ["firsts", "scripts"] []) (m : mg "are_called_well" = some (.ref f)) (c_script_fits : Callee P w K mg base CX0 k "script_fits" 2 f_script_fits) (m_list : mg "list" = none) (m_len : mg "len" = none) (h_MOST_HANDS : GlobIs K mg "MOST_HANDS" (.int 60)) (h_MOST_IN_ALL : GlobIs K mg "MOST_IN_ALL" (.int 1200)) : Callee P w K mg base CX0 (k + 1) "are_called_well" 2 f_are_called_well := by
  have sc := sc_are_called_well
  refine Callee.frz ⟨f, fd, ["firsts", "scripts"], Fun.okD F sc rfl fun cdv A outer s H E hr => ?_, m, F.kp, b⟩
  exact (ds_cons (ds_set 2 sc.nd (de_callTyN cn_list rfl m_list (by decide +kernel) (da_cons (de_var 0) da_nil)))
  (ds_cons (ds_set 3 sc.nd de_int)
  (ds_cons (ds_set 4 sc.nd de_int)
  (ds_cons (ds_while PassesOwn.never (dt_cmp od_lt (de_var 4) (de_callB cd_len rfl m_len PySem.boot_len (da_cons (de_var 2) da_nil)) (nomark _))
  (ds_cons (ds_set 5 sc.nd (de_ix xd_ix (de_var 1) (de_ix xd_ix (de_ix xd_ix (de_var 2) (de_var 4) (fun _ _ => rfl)) de_int (fun _ _ => rfl)) (fun _ _ => rfl)))
  (ds_cons (ds_set 3 sc.nd (de_bin od_add (de_var 3) (de_callB cd_len rfl m_len PySem.boot_len (da_cons (de_var 5) da_nil))))
  (ds_cons (ds_if (PW.pt (dw_or (dt_cmp od_gt (de_callB cd_len rfl m_len PySem.boot_len (da_cons (de_var 2) da_nil)) (de_globI h_MOST_HANDS) (nomark _)) (dw_or (dt_cmp od_gt (de_var 3) (de_globI h_MOST_IN_ALL) (nomark _)) (dw_or1 (dt_not (dt_val (de_callC c_script_fits hr thru0 (an_cons (de_var 5) (an_cons (de_ix xd_ix (de_ix xd_ix (de_var 2) (de_var 4) (fun _ _ => rfl)) de_int (fun _ _ => rfl)) an_nil)))))))))
  (ds_one (ds_ret de_bl))
  ds_nil)
  (ds_cons (ds_expr (de_extend (pe_bm PySem.F.plainAttrs_list PySem.F.slot_list_extend PySem.F.type_list_extend mt_extend (de_var 2) (pa_cons (de_comp (own := [("deed", 6)]) (by rfl) sc.nd (di_seq (de_var 5)) (blkOk_by (own := [("deed", 6)]) (N := N_are_called_well) (sc := defScope st_are_called_well) (by decide +kernel)) (by decide) (fun _ _ _ _ _ => (dg_name 6 sc.nd)) (fun _ _ _ _ _ => (dts_one (dt_cmp (od_eq hr.units) (de_ix xd_ix (de_var 6) de_int (fun _ _ => rfl)) de_str (nomark _)))) (fun _ _ _ _ _ => (de_slice sd_sl (de_var 6) (do_so de_int) do_no))) pa_nil))))
  (ds_one (ds_set 4 sc.nd (de_bin od_add (de_var 4) de_int))))))))
  (ds_one (ds_ret de_bl))))))
/-! ### is_house -/
abbrev st_is_house : Stmt := topS 33
abbrev N_is_house : List Str := ["thing", "boxes", "walls", "firsts", "scripts", "many", "at", "script", "calling"]
theorem sc_is_house : FnScope N_is_house ["thing"] (defScope st_is_house) := ⟨rfl, rfl, rfl, by decide +kernel, rfl, by decide +kernel, by decide +kernel⟩
noncomputable def d_is_house : DS := (sSeq (sIf (bOr (bNot (dTst (dCall oIsInst (aCons (dVar 0) (aCons (dC (.ty "tuple")) aNil))))) (dTst (dBin oNe (dCall oLen (aCons (dVar 0) aNil)) (dC (.int 4)))))
  (sRet (dC (.bl false)))
  sNil)
  (sSeq (sAsg (dVar 0) (gTupD 4 (gsCons (gN 1) (gsCons (gN 2) (gsCons (gN 3) (gsCons (gN 4) gsNil))))))
  (sSeq (sIf (bOr (bNot (dTst (dCallF f_is_from_to (aCons (dVar 1) (aCons (dC (.int 0)) (aCons (dC (.int 99)) aNil)))))) (bNot (dTst (dCallF f_is_from_to (aCons (dVar 2) (aCons (dC (.int 0)) (aCons (dC (.int 6)) aNil)))))))
  (sRet (dC (.bl false)))
  sNil)
  (sSeq (sIf (bOr (bNot (dTst (dCall oIsInst (aCons (dVar 3) (aCons (dC (.ty "tuple")) aNil))))) (bNot (dTst (dChain oLe oLe (dC (.int 1)) (dCall oLen (aCons (dVar 3) aNil)) (dC (.int 40))))))
  (sRet (dC (.bl false)))
  sNil)
  (sSeq (sIf (bOr (bNot (dTst (dCall oIsInst (aCons (dVar 4) (aCons (dC (.ty "tuple")) aNil))))) (bNot (dTst (dChain oLe oLe (dC (.int 1)) (dCall oLen (aCons (dVar 4) aNil)) (dC (.int 20))))))
  (sRet (dC (.bl false)))
  sNil)
  (sSeq (sSet 5 (dCall oLen (aCons (dVar 4) aNil)))
  (sSeq (sFor (iEnum (dVar 4)) (gTupD 2 (gsCons (gN 6) (gsCons (gN 7) gsNil)))
  (sIf (bNot (dTst (dCallF f_is_script (aCons (dVar 1) (aCons (dVar 2) (aCons (dVar 5) (aCons (dVar 6) (aCons (dVar 7) aNil))))))))
  (sRet (dC (.bl false)))
  sNil))
  (sSeq (sIf (bNot (dTst (dCall oAll (aCons (dComp (iSeq (dVar 3)) (gN 8) [8] bYes (dCallF f_is_calling (aCons (dVar 2) (aCons (dVar 5) (aCons (dVar 8) aNil))))) aNil))))
  (sRet (dC (.bl false)))
  sNil)
  (sRet (dCallF f_are_called_well (aCons (dVar 3) (aCons (dVar 4) aNil))))))))))))
noncomputable def f_is_house : Fn := dFun0 9 d_is_house
theorem ok_is_house {k : Nat} {f : Addr} {fd : FuncData} (F : Fun K "is_house" "is_house" st_is_house f fd) (b : Binds K fd ["thing"] []) (m : mg "is_house" = some (.ref f)) (c_is_from_to : Callee P w K mg base CX0 k "is_from_to" 3 f_is_from_to) (c_is_script : Callee P w K mg base CX0 k "is_script" 5 f_is_script) (c_is_calling : Callee P w K mg base CX0 k "is_calling" 3 f_is_calling) (c_are_called_well : Callee P w K mg base CX0 k "are_called_well" 2 f_are_called_well) (m_isinstance : mg "isinstance" = none) (m_tuple : mg "tuple" = none) (m_len : mg "len" = none) (m_enumerate : mg "enumerate" = none) (m_all : mg "all" = none) (h_MOST_BOXES : GlobIs K mg "MOST_BOXES" (.int 99)) (h_WALLS_AT_MOST : GlobIs K mg "WALLS_AT_MOST" (.int 6)) (h_MOST_FIRSTS : GlobIs K mg "MOST_FIRSTS" (.int 40)) (h_MOST_SCRIPTS : GlobIs K mg "MOST_SCRIPTS" (.int 20)) : Callee P w K mg base CX0 (k + 1) "is_house" 1 f_is_house := by
  have sc := sc_is_house
  refine ⟨f, fd, ["thing"], Fun.okD F sc rfl fun cdv A outer s H E hr => ?_, m, F.kp, b⟩
  exact (ds_cons (ds_if (PW.pt (dw_or (dt_not (dt_val (de_callB cd_isinst rfl m_isinstance (by decide +kernel) (da_cons (de_var 0) (da_cons (de_ty rfl m_tuple (by decide +kernel)) da_nil))))) (dw_or1 (dt_cmp (od_ne hr.units) (de_callB cd_len rfl m_len PySem.boot_len (da_cons (de_var 0) da_nil)) de_int (nomark _)))))
  (ds_one (ds_ret de_bl))
  ds_nil)
  (ds_cons (ds_asg (de_var 0) (dg_tup (by rfl) (dgs_cons (dg_name 1 sc.nd) (dgs_cons (dg_name 2 sc.nd) (dgs_cons (dg_name 3 sc.nd) (dgs_cons (dg_name 4 sc.nd) dgs_nil))))))
  (ds_cons (ds_if (PW.pt (dw_or (dt_not (dt_val (de_callC c_is_from_to hr thru0 (an_cons (de_var 1) (an_cons de_int (an_cons (de_globI h_MOST_BOXES) an_nil)))))) (dw_or1 (dt_not (dt_val (de_callC c_is_from_to hr thru0 (an_cons (de_var 2) (an_cons de_int (an_cons (de_globI h_WALLS_AT_MOST) an_nil)))))))))
  (ds_one (ds_ret de_bl))
  ds_nil)
  (ds_cons (ds_if (PW.pt (dw_or (dt_not (dt_val (de_callB cd_isinst rfl m_isinstance (by decide +kernel) (da_cons (de_var 3) (da_cons (de_ty rfl m_tuple (by decide +kernel)) da_nil))))) (dw_or1 (dt_not (dt_chain od_le od_le de_int (de_callB cd_len rfl m_len PySem.boot_len (da_cons (de_var 3) da_nil)) (de_globI h_MOST_FIRSTS))))))
  (ds_one (ds_ret de_bl))
  ds_nil)
  (ds_cons (ds_if (PW.pt (dw_or (dt_not (dt_val (de_callB cd_isinst rfl m_isinstance (by decide +kernel) (da_cons (de_var 4) (da_cons (de_ty rfl m_tuple (by decide +kernel)) da_nil))))) (dw_or1 (dt_not (dt_chain od_le od_le de_int (de_callB cd_len rfl m_len PySem.boot_len (da_cons (de_var 4) da_nil)) (de_globI h_MOST_SCRIPTS))))))
  (ds_one (ds_ret de_bl))
  ds_nil)
  (ds_cons (ds_set 5 sc.nd (de_callB cd_len rfl m_len PySem.boot_len (da_cons (de_var 4) da_nil)))
  (ds_cons (ds_for PassesOwn.never (by rfl) (di_enum rfl m_enumerate (de_var 4)) (dg_tup (by rfl) (dgs_cons (dg_name 6 sc.nd) (dgs_cons (dg_name 7 sc.nd) dgs_nil)))
  (ds_one (ds_if (dt_not (dt_val (de_callC c_is_script hr thru0 (an_cons (de_var 1) (an_cons (de_var 2) (an_cons (de_var 5) (an_cons (de_var 6) (an_cons (de_var 7) an_nil))))))))
  (ds_one (ds_ret de_bl))
  ds_nil)))
  (ds_cons (ds_if (dt_not (dt_val (de_callB (cd_all (by rfl)) rfl m_all (by decide +kernel) (da_cons (de_comp (own := [("calling", 8)]) (by rfl) sc.nd (di_seq (de_var 3)) (blkOk_by (own := [("calling", 8)]) (N := N_is_house) (sc := defScope st_is_house) (by decide +kernel)) (by decide) (fun _ _ _ _ _ => (dg_name 8 sc.nd)) (fun _ _ _ _ _ => dts_nil) (fun _ _ _ _ _ => (de_callC c_is_calling hr thru0 (an_cons (de_var 2) (an_cons (de_var 5) (an_cons (de_var 8) an_nil)))))) da_nil))))
  (ds_one (ds_ret de_bl))
  ds_nil)
  (ds_one (ds_ret (de_callC c_are_called_well hr thru0 (an_cons (de_var 3) (an_cons (de_var 4) an_nil)))))))))))))
/-! ### need_house -/
abbrev st_need_house : Stmt := topS 34
abbrev N_need_house : List Str := ["thing"]
theorem sc_need_house : FnScope N_need_house ["thing"] (defScope st_need_house) := ⟨rfl, rfl, rfl, by decide +kernel, rfl, by decide +kernel, by decide +kernel⟩
noncomputable def d_need_house : DS := (sIf (bNot (dTst (dCallF f_is_house (aCons (dVar 0) aNil))))
  (sRaise "NoHouse")
  sNil)
noncomputable def f_need_house : Fn := dFun 1 d_need_house
theorem ok_need_house {k : Nat} {f : Addr} {fd : FuncData} (F : Fun K "need_house" "need_house" st_need_house f fd) (b : Binds K fd ["thing"] []) (m : mg "need_house" = some (.ref f)) (c_is_house : Callee P w K mg base CX0 k "is_house" 1 f_is_house) (e_NoHouse : ErrC K mg "NoHouse") : Callee P w K mg base (L2.CX P w) (k + 1) "need_house" 1 f_need_house := by
  have sc := sc_need_house
  refine ⟨f, fd, ["thing"], Fun.okXD F sc rfl fun cdv A outer s H E hr => ?_, m, F.kp, b⟩
  exact (ds_one (ds_if (dt_not (dt_val (de_callC c_is_house hr thru0 (an_cons (de_var 0) an_nil))))
  (ds_one (ds_raise (by rfl) (takes_of rfl rfl rfl rfl) e_NoHouse rfl))
  ds_nil))
/-! ### need_stand -/
abbrev st_need_stand : Stmt := topS 41
abbrev N_need_stand : List Str := ["house", "stand"]
theorem sc_need_stand : FnScope N_need_stand ["house", "stand"] (defScope st_need_stand) := ⟨rfl, rfl, rfl, by decide +kernel, rfl, by decide +kernel, by decide +kernel⟩
noncomputable def d_need_stand : DS := (sSeq (sExpr (dCallF f_need_house (aCons (dVar 0) aNil)))
  sBad)
noncomputable def f_need_stand : Fn := dFun 2 d_need_stand
theorem ok_need_stand {k : Nat} {f : Addr} {fd : FuncData} (F : Fun K "need_stand" "need_stand" st_need_stand f fd) (b : Binds K fd ["house", "stand"] []) (m : mg "need_stand" = some (.ref f)) (c_need_house : Callee P w K mg base (L2.CX P w) k "need_house" 1 f_need_house) : Callee P w K mg base (L2.CX P w) (k + 1) "need_stand" 2 f_need_stand := by
  have sc := sc_need_stand
  refine ⟨f, fd, ["house", "stand"], Fun.okXD F sc rfl fun cdv A outer s H E hr => ?_, m, F.kp, b⟩
  exact (ds_cons (ds_expr (de_callC c_need_house hr (thruX (takes_of rfl rfl rfl rfl)) (an_cons (de_var 0) an_nil)))
  (ds_one ds_bad))
/-! ### hands -/
abbrev st_hands : Stmt := topS 42
abbrev N_hands : List Str := ["house"]
theorem sc_hands : FnScope N_hands ["house"] (defScope st_hands) := ⟨rfl, rfl, rfl, by decide +kernel, rfl, by decide +kernel, by decide +kernel⟩
noncomputable def d_hands : DS := (sSeq (sExpr (dCallF f_need_house (aCons (dVar 0) aNil)))
  sBad)
noncomputable def f_hands : Fn := dFun 1 d_hands
theorem ok_hands {k : Nat} {f : Addr} {fd : FuncData} (F : Fun K "hands" "hands" st_hands f fd) (b : Binds K fd ["house"] []) (m : mg "hands" = some (.ref f)) (c_need_house : Callee P w K mg base (L2.CX P w) k "need_house" 1 f_need_house) : Callee P w K mg base (L2.CX P w) (k + 1) "hands" 1 f_hands := by
  have sc := sc_hands
  refine ⟨f, fd, ["house"], Fun.okXD F sc rfl fun cdv A outer s H E hr => ?_, m, F.kp, b⟩
  exact (ds_cons (ds_expr (de_callC c_need_house hr (thruX (takes_of rfl rfl rfl rfl)) (an_cons (de_var 0) an_nil)))
  (ds_one ds_bad))
/-! ### first_stand -/
abbrev st_first_stand : Stmt := topS 43
abbrev N_first_stand : List Str := ["house"]
theorem sc_first_stand : FnScope N_first_stand ["house"] (defScope st_first_stand) := ⟨rfl, rfl, rfl, by decide +kernel, rfl, by decide +kernel, by decide +kernel⟩
noncomputable def d_first_stand : DS := (sSeq (sExpr (dCallF f_need_house (aCons (dVar 0) aNil)))
  sBad)
noncomputable def f_first_stand : Fn := dFun 1 d_first_stand
theorem ok_first_stand {k : Nat} {f : Addr} {fd : FuncData} (F : Fun K "first_stand" "first_stand" st_first_stand f fd) (b : Binds K fd ["house"] []) (m : mg "first_stand" = some (.ref f)) (c_need_house : Callee P w K mg base (L2.CX P w) k "need_house" 1 f_need_house) : Callee P w K mg base (L2.CX P w) (k + 1) "first_stand" 1 f_first_stand := by
  have sc := sc_first_stand
  refine ⟨f, fd, ["house"], Fun.okXD F sc rfl fun cdv A outer s H E hr => ?_, m, F.kp, b⟩
  exact (ds_cons (ds_expr (de_callC c_need_house hr (thruX (takes_of rfl rfl rfl rfl)) (an_cons (de_var 0) an_nil)))
  (ds_one ds_bad))
/-! ### is_stand -/
abbrev st_is_stand : Stmt := topS 44
abbrev N_is_stand : List Str := ["house", "thing"]
theorem sc_is_stand : FnScope N_is_stand ["house", "thing"] (defScope st_is_stand) := ⟨rfl, rfl, rfl, by decide +kernel, rfl, by decide +kernel, by decide +kernel⟩
noncomputable def d_is_stand : DS := (sSeq (sExpr (dCallF f_need_house (aCons (dVar 0) aNil)))
  sBad)
noncomputable def f_is_stand : Fn := dFun 2 d_is_stand
theorem ok_is_stand {k : Nat} {f : Addr} {fd : FuncData} (F : Fun K "is_stand" "is_stand" st_is_stand f fd) (b : Binds K fd ["house", "thing"] []) (m : mg "is_stand" = some (.ref f)) (c_need_house : Callee P w K mg base (L2.CX P w) k "need_house" 1 f_need_house) : Callee P w K mg base (L2.CX P w) (k + 1) "is_stand" 2 f_is_stand := by
  have sc := sc_is_stand
  refine ⟨f, fd, ["house", "thing"], Fun.okXD F sc rfl fun cdv A outer s H E hr => ?_, m, F.kp, b⟩
  exact (ds_cons (ds_expr (de_callC c_need_house hr (thruX (takes_of rfl rfl rfl rfl)) (an_cons (de_var 0) an_nil)))
  (ds_one ds_bad))
/-! ### numbers -/
abbrev st_numbers : Stmt := topS 45
abbrev N_numbers : List Str := ["house", "stand"]
theorem sc_numbers : FnScope N_numbers ["house", "stand"] (defScope st_numbers) := ⟨rfl, rfl, rfl, by decide +kernel, rfl, by decide +kernel, by decide +kernel⟩
noncomputable def d_numbers : DS := (sSeq (sExpr (dCallF f_need_stand (aCons (dVar 0) (aCons (dVar 1) aNil))))
  sBad)
noncomputable def f_numbers : Fn := dFun 2 d_numbers
theorem ok_numbers {k : Nat} {f : Addr} {fd : FuncData} (F : Fun K "numbers" "numbers" st_numbers f fd) (b : Binds K fd ["house", "stand"] []) (m : mg "numbers" = some (.ref f)) (c_need_stand : Callee P w K mg base (L2.CX P w) k "need_stand" 2 f_need_stand) : Callee P w K mg base (L2.CX P w) (k + 1) "numbers" 2 f_numbers := by
  have sc := sc_numbers
  refine ⟨f, fd, ["house", "stand"], Fun.okXD F sc rfl fun cdv A outer s H E hr => ?_, m, F.kp, b⟩
  exact (ds_cons (ds_expr (de_callC c_need_stand hr (thruX (takes_of rfl rfl rfl rfl)) (an_cons (de_var 0) (an_cons (de_var 1) an_nil))))
  (ds_one ds_bad))
/-! ### lifted -/
abbrev st_lifted : Stmt := topS 46
abbrev N_lifted : List Str := ["house", "stand", "wall"]
theorem sc_lifted : FnScope N_lifted ["house", "stand", "wall"] (defScope st_lifted) := ⟨rfl, rfl, rfl, by decide +kernel, rfl, by decide +kernel, by decide +kernel⟩
noncomputable def d_lifted : DS := (sSeq (sExpr (dCallF f_need_stand (aCons (dVar 0) (aCons (dVar 1) aNil))))
  (sSeq sBad
  sBad))
noncomputable def f_lifted : Fn := dFun 3 d_lifted
theorem ok_lifted {k : Nat} {f : Addr} {fd : FuncData} (F : Fun K "lifted" "lifted" st_lifted f fd) (b : Binds K fd ["house", "stand", "wall"] []) (m : mg "lifted" = some (.ref f)) (c_need_stand : Callee P w K mg base (L2.CX P w) k "need_stand" 2 f_need_stand) : Callee P w K mg base (L2.CX P w) (k + 1) "lifted" 3 f_lifted := by
  have sc := sc_lifted
  refine ⟨f, fd, ["house", "stand", "wall"], Fun.okXD F sc rfl fun cdv A outer s H E hr => ?_, m, F.kp, b⟩
  exact (ds_cons (ds_expr (de_callC c_need_stand hr (thruX (takes_of rfl rfl rfl rfl)) (an_cons (de_var 0) (an_cons (de_var 1) an_nil))))
  (ds_cons ds_bad
  (ds_one ds_bad)))
/-! ### may_go -/
abbrev st_may_go : Stmt := topS 47
abbrev N_may_go : List Str := ["house", "stand", "going"]
theorem sc_may_go : FnScope N_may_go ["house", "stand"] (defScope st_may_go) := ⟨rfl, rfl, rfl, by decide +kernel, rfl, by decide +kernel, by decide +kernel⟩
noncomputable def d_may_go : DS := (sSeq (sExpr (dCallF f_need_stand (aCons (dVar 0) (aCons (dVar 1) aNil))))
  (sSeq sBad
  sBad))
noncomputable def f_may_go : Fn := dFun 3 d_may_go
theorem ok_may_go {k : Nat} {f : Addr} {fd : FuncData} (F : Fun K "may_go" "may_go" st_may_go f fd) (b : Binds K fd ["house", "stand"] []) (m : mg "may_go" = some (.ref f)) (c_need_stand : Callee P w K mg base (L2.CX P w) k "need_stand" 2 f_need_stand) : Callee P w K mg base (L2.CX P w) (k + 1) "may_go" 2 f_may_go := by
  have sc := sc_may_go
  refine ⟨f, fd, ["house", "stand"], Fun.okXD F sc rfl fun cdv A outer s H E hr => ?_, m, F.kp, b⟩
  exact (ds_cons (ds_expr (de_callC c_need_stand hr (thruX (takes_of rfl rfl rfl rfl)) (an_cons (de_var 0) (an_cons (de_var 1) an_nil))))
  (ds_cons ds_bad
  (ds_one ds_bad)))
/-! ### behind -/
abbrev st_behind : Stmt := topS 48
abbrev N_behind : List Str := ["house", "stand", "hand", "going"]
theorem sc_behind : FnScope N_behind ["house", "stand", "hand"] (defScope st_behind) := ⟨rfl, rfl, rfl, by decide +kernel, rfl, by decide +kernel, by decide +kernel⟩
noncomputable def d_behind : DS := (sSeq (sExpr (dCallF f_need_stand (aCons (dVar 0) (aCons (dVar 1) aNil))))
  (sSeq sBad
  (sSeq sBad
  (sSeq sBad
  (sSeq sBad
  sBad)))))
noncomputable def f_behind : Fn := dFun 4 d_behind
theorem ok_behind {k : Nat} {f : Addr} {fd : FuncData} (F : Fun K "behind" "behind" st_behind f fd) (b : Binds K fd ["house", "stand", "hand"] []) (m : mg "behind" = some (.ref f)) (c_need_stand : Callee P w K mg base (L2.CX P w) k "need_stand" 2 f_need_stand) : Callee P w K mg base (L2.CX P w) (k + 1) "behind" 3 f_behind := by
  have sc := sc_behind
  refine ⟨f, fd, ["house", "stand", "hand"], Fun.okXD F sc rfl fun cdv A outer s H E hr => ?_, m, F.kp, b⟩
  exact (ds_cons (ds_expr (de_callC c_need_stand hr (thruX (takes_of rfl rfl rfl rfl)) (an_cons (de_var 0) (an_cons (de_var 1) an_nil))))
  (ds_cons ds_bad
  (ds_cons ds_bad
  (ds_cons ds_bad
  (ds_cons ds_bad
  (ds_one ds_bad))))))
/-! ### need_gone -/
abbrev st_need_gone : Stmt := topS 51
abbrev N_need_gone : List Str := ["house", "weaving", "going"]
theorem sc_need_gone : FnScope N_need_gone ["house", "weaving"] (defScope st_need_gone) := ⟨rfl, rfl, rfl, by decide +kernel, rfl, by decide +kernel, by decide +kernel⟩
noncomputable def d_need_gone : DS := (sSeq (sExpr (dCallF f_need_house (aCons (dVar 0) aNil)))
  (sSeq sBad
  (sSeq sBad
  sBad)))
noncomputable def f_need_gone : Fn := dFun 3 d_need_gone
theorem ok_need_gone {k : Nat} {f : Addr} {fd : FuncData} (F : Fun K "need_gone" "need_gone" st_need_gone f fd) (b : Binds K fd ["house", "weaving"] []) (m : mg "need_gone" = some (.ref f)) (c_need_house : Callee P w K mg base (L2.CX P w) k "need_house" 1 f_need_house) : Callee P w K mg base (L2.CX P w) (k + 1) "need_gone" 2 f_need_gone := by
  have sc := sc_need_gone
  refine ⟨f, fd, ["house", "weaving"], Fun.okXD F sc rfl fun cdv A outer s H E hr => ?_, m, F.kp, b⟩
  exact (ds_cons (ds_expr (de_callC c_need_house hr (thruX (takes_of rfl rfl rfl rfl)) (an_cons (de_var 0) an_nil)))
  (ds_cons ds_bad
  (ds_cons ds_bad
  (ds_one ds_bad))))
/-! ### fill -/
abbrev st_fill : Stmt := topS 52
abbrev N_fill : List Str := ["going", "held", "found", "moved", "hand"]
theorem sc_fill : FnScope N_fill ["going", "held"] (defScope st_fill) := ⟨rfl, rfl, rfl, by decide +kernel, rfl, by decide +kernel, by decide +kernel⟩
def d_fill : DS := (sSeq sBad
  (sSeq sBad
  (sSeq sBad
  sBad)))
def f_fill : Fn := dFun0 5 d_fill
theorem ok_fill {k : Nat} {f : Addr} {fd : FuncData} (F : Fun K "fill" "fill" st_fill f fd) (b : Binds K fd ["going", "held"] []) (m : mg "fill" = some (.ref f)) : Callee P w K mg base CX0 (k + 1) "fill" 2 f_fill := by
  have sc := sc_fill
  refine ⟨f, fd, ["going", "held"], Fun.okD F sc rfl fun cdv A outer s H E hr => ?_, m, F.kp, b⟩
  exact (ds_cons ds_bad
  (ds_cons ds_bad
  (ds_cons ds_bad
  (ds_one ds_bad))))
/-! ### is_still -/
abbrev st_is_still : Stmt := topS 54
abbrev N_is_still : List Str := ["going"]
theorem sc_is_still : FnScope N_is_still ["going"] (defScope st_is_still) := ⟨rfl, rfl, rfl, by decide +kernel, rfl, by decide +kernel, by decide +kernel⟩
def d_is_still : DS := sBad
def f_is_still : Fn := dFun0 1 d_is_still
theorem ok_is_still {k : Nat} {f : Addr} {fd : FuncData} (F : Fun K "is_still" "is_still" st_is_still f fd) (b : Binds K fd ["going"] []) (m : mg "is_still" = some (.ref f)) : Callee P w K mg base CX0 (k + 1) "is_still" 1 f_is_still := by
  have sc := sc_is_still
  refine ⟨f, fd, ["going"], Fun.okD F sc rfl fun cdv A outer s H E hr => ?_, m, F.kp, b⟩
  exact (ds_one ds_bad)
/-! ### played -/
abbrev st_played : Stmt := topS 55
abbrev N_played : List Str := ["house", "weaving"]
theorem sc_played : FnScope N_played ["house", "weaving"] (defScope st_played) := ⟨rfl, rfl, rfl, by decide +kernel, rfl, by decide +kernel, by decide +kernel⟩
noncomputable def d_played : DS := (sRet (dNever (dCallF f_need_gone (aCons (dVar 0) (aCons (dVar 1) aNil)))))
noncomputable def f_played : Fn := dFun 2 d_played
theorem ok_played {k : Nat} {f : Addr} {fd : FuncData} (F : Fun K "played" "played" st_played f fd) (b : Binds K fd ["house", "weaving"] []) (m : mg "played" = some (.ref f)) (c_need_gone : Callee P w K mg base (L2.CX P w) k "need_gone" 2 f_need_gone) : Callee P w K mg base (L2.CX P w) (k + 1) "played" 2 f_played := by
  have sc := sc_played
  refine ⟨f, fd, ["house", "weaving"], Fun.okXD F sc rfl fun cdv A outer s H E hr => ?_, m, F.kp, b⟩
  exact (ds_one (ds_ret (de_attrN (de_callC c_need_gone hr (thruX (takes_of rfl rfl rfl rfl)) (an_cons (de_var 0) (an_cons (de_var 1) an_nil))))))
/-! ### is_full -/
abbrev st_is_full : Stmt := topS 56
abbrev N_is_full : List Str := ["house", "weaving"]
theorem sc_is_full : FnScope N_is_full ["house", "weaving"] (defScope st_is_full) := ⟨rfl, rfl, rfl, by decide +kernel, rfl, by decide +kernel, by decide +kernel⟩
noncomputable def d_is_full : DS := (sRet (dCallF f_is_still (aCons (dCallF f_need_gone (aCons (dVar 0) (aCons (dVar 1) aNil))) aNil)))
noncomputable def f_is_full : Fn := dFun 2 d_is_full
theorem ok_is_full {k : Nat} {f : Addr} {fd : FuncData} (F : Fun K "is_full" "is_full" st_is_full f fd) (b : Binds K fd ["house", "weaving"] []) (m : mg "is_full" = some (.ref f)) (c_is_still : Callee P w K mg base CX0 k "is_still" 1 f_is_still) (c_need_gone : Callee P w K mg base (L2.CX P w) k "need_gone" 2 f_need_gone) : Callee P w K mg base (L2.CX P w) (k + 1) "is_full" 2 f_is_full := by
  have sc := sc_is_full
  refine ⟨f, fd, ["house", "weaving"], Fun.okXD F sc rfl fun cdv A outer s H E hr => ?_, m, F.kp, b⟩
  exact (ds_one (ds_ret (de_callC c_is_still hr thru0 (an_cons (de_callC c_need_gone hr (thruX (takes_of rfl rfl rfl rfl)) (an_cons (de_var 0) (an_cons (de_var 1) an_nil))) an_nil))))
/-! ### gone_on -/
abbrev st_gone_on : Stmt := topS 57
abbrev N_gone_on : List Str := ["house", "weaving"]
theorem sc_gone_on : FnScope N_gone_on ["house", "weaving"] (defScope st_gone_on) := ⟨rfl, rfl, rfl, by decide +kernel, rfl, by decide +kernel, by decide +kernel⟩
noncomputable def d_gone_on : DS := (sRet (dCallF f_fill (aCons (dCallF f_need_gone (aCons (dVar 0) (aCons (dVar 1) aNil))) (aCons (dC .non) aNil))))
noncomputable def f_gone_on : Fn := dFun 2 d_gone_on
theorem ok_gone_on {k : Nat} {f : Addr} {fd : FuncData} (F : Fun K "gone_on" "gone_on" st_gone_on f fd) (b : Binds K fd ["house", "weaving"] []) (m : mg "gone_on" = some (.ref f)) (c_fill : Callee P w K mg base CX0 k "fill" 2 f_fill) (c_need_gone : Callee P w K mg base (L2.CX P w) k "need_gone" 2 f_need_gone) : Callee P w K mg base (L2.CX P w) (k + 1) "gone_on" 2 f_gone_on := by
  have sc := sc_gone_on
  refine ⟨f, fd, ["house", "weaving"], Fun.okXD F sc rfl fun cdv A outer s H E hr => ?_, m, F.kp, b⟩
  exact (ds_one (ds_ret (de_callC c_fill hr thru0 (an_cons (de_callC c_need_gone hr (thruX (takes_of rfl rfl rfl rfl)) (an_cons (de_var 0) (an_cons (de_var 1) an_nil))) (an_cons de_non an_nil)))))
/-! ### end -/
abbrev st_end : Stmt := topS 58
abbrev N_end : List Str := ["house", "going", "weaving", "waits"]
theorem sc_end : FnScope N_end ["house"] (defScope st_end) := ⟨rfl, rfl, rfl, by decide +kernel, rfl, by decide +kernel, by decide +kernel⟩
noncomputable def d_end : DS := (sSeq (sExpr (dCallF f_need_house (aCons (dVar 0) aNil)))
  (sSeq sBad
  (sSeq sBad
  (sSeq sBad
  (sSeq sBad
  sBad)))))
noncomputable def f_end : Fn := dFun 4 d_end
theorem ok_end {k : Nat} {f : Addr} {fd : FuncData} (F : Fun K "end" "end" st_end f fd) (b : Binds K fd ["house"] []) (m : mg "end" = some (.ref f)) (c_need_house : Callee P w K mg base (L2.CX P w) k "need_house" 1 f_need_house) : Callee P w K mg base (L2.CX P w) (k + 1) "end" 1 f_end := by
  have sc := sc_end
  refine ⟨f, fd, ["house"], Fun.okXD F sc rfl fun cdv A outer s H E hr => ?_, m, F.kp, b⟩
  exact (ds_cons (ds_expr (de_callC c_need_house hr (thruX (takes_of rfl rfl rfl rfl)) (an_cons (de_var 0) an_nil)))
  (ds_cons ds_bad
  (ds_cons ds_bad
  (ds_cons ds_bad
  (ds_cons ds_bad
  (ds_one ds_bad))))))
/-! ### is_knot -/
abbrev st_is_knot : Stmt := topS 59
abbrev N_is_knot : List Str := ["house", "weaving", "waits", "going"]
theorem sc_is_knot : FnScope N_is_knot ["house", "weaving", "waits"] (defScope st_is_knot) := ⟨rfl, rfl, rfl, by decide +kernel, rfl, by decide +kernel, by decide +kernel⟩
noncomputable def d_is_knot : DS := (sSeq (sExpr (dCallF f_need_house (aCons (dVar 0) aNil)))
  (sSeq sBad
  sBad))
noncomputable def f_is_knot : Fn := dFun 4 d_is_knot
theorem ok_is_knot {k : Nat} {f : Addr} {fd : FuncData} (F : Fun K "is_knot" "is_knot" st_is_knot f fd) (b : Binds K fd ["house", "weaving", "waits"] []) (m : mg "is_knot" = some (.ref f)) (c_need_house : Callee P w K mg base (L2.CX P w) k "need_house" 1 f_need_house) : Callee P w K mg base (L2.CX P w) (k + 1) "is_knot" 3 f_is_knot := by
  have sc := sc_is_knot
  refine ⟨f, fd, ["house", "weaving", "waits"], Fun.okXD F sc rfl fun cdv A outer s H E hr => ?_, m, F.kp, b⟩
  exact (ds_cons (ds_expr (de_callC c_need_house hr (thruX (takes_of rfl rfl rfl rfl)) (an_cons (de_var 0) an_nil)))
  (ds_cons ds_bad
  (ds_one ds_bad)))
/-! ### _law_b_spread -/
abbrev st__law_b_spread : Stmt := topS 61
abbrev N__law_b_spread : List Str := ["cell", "place", "mixed", "other"]
theorem sc__law_b_spread : FnScope N__law_b_spread ["cell", "place"] (defScope st__law_b_spread) := ⟨rfl, rfl, rfl, by decide +kernel, rfl, by decide +kernel, by decide +kernel⟩
def d__law_b_spread : DS := (sSeq (sIf (dTst (dBin oGe (dVar 0) (dBin oPow (dC (.int 10)) (dC (.int 18)))))
  (sRet (dVar 0))
  sNil)
  (sSeq (sSet 2 (dBin oMod (dBin oAdd (dBin oAdd (dBin oMul (dBin oMod (dVar 0) (dC (.int 2147483647))) (dC (.int 16807))) (dBin oMul (dVar 1) (dC (.int 62089911)))) (dC (.int 12345))) (dC (.int 2147483629))))
  (sSeq (sSet 2 (dBin oMod (dBin oAdd (dBin oAdd (dBin oMul (dVar 2) (dVar 2)) (dBin oMul (dC (.int 7919)) (dVar 1))) (dC (.int 1))) (dC (.int 2147483587))))
  (sSeq (sSet 3 (dBin oMod (dBin oAdd (dBin oAdd (dBin oMul (dVar 2) (dVar 2)) (dBin oMul (dC (.int 40014)) (dVar 2))) (dVar 1)) (dC (.int 2147483563))))
  (sRet (dBin oAdd (dBin oMul (dVar 2) (dC (.int 2147483563))) (dVar 3)))))))
def f__law_b_spread : Fn := dFun0 4 d__law_b_spread
theorem ok__law_b_spread {k : Nat} {f : Addr} {fd : FuncData} (F : Fun K "_law_b_spread" "_law_b_spread" st__law_b_spread f fd) (b : Binds K fd ["cell", "place"] []) (m : mg "_law_b_spread" = some (.ref f)) : Callee P w K mg base CX0 (k + 1) "_law_b_spread" 2 f__law_b_spread := by
  have sc := sc__law_b_spread
  refine ⟨f, fd, ["cell", "place"], Fun.okD F sc rfl fun cdv A outer s H E hr => ?_, m, F.kp, b⟩
  exact (ds_cons (ds_if (dt_cmp od_ge (de_var 0) (de_bin od_pow de_int de_int) (nomark _))
  (ds_one (ds_ret (de_var 0)))
  ds_nil)
  (ds_cons (ds_set 2 sc.nd (de_bin od_mod (de_bin od_add (de_bin od_add (de_bin od_mul (de_bin od_mod (de_var 0) de_int) de_int) (de_bin od_mul (de_var 1) de_int)) de_int) de_int))
  (ds_cons (ds_set 2 sc.nd (de_bin od_mod (de_bin od_add (de_bin od_add (de_bin od_mul (de_var 2) (de_var 2)) (de_bin od_mul de_int (de_var 1))) de_int) de_int))
  (ds_cons (ds_set 3 sc.nd (de_bin od_mod (de_bin od_add (de_bin od_add (de_bin od_mul (de_var 2) (de_var 2)) (de_bin od_mul de_int (de_var 2))) (de_var 1)) de_int))
  (ds_one (ds_ret (de_bin od_add (de_bin od_mul (de_var 2) de_int) (de_var 3))))))))
/-! ### _law_b_digit -/
abbrev st__law_b_digit : Stmt := topS 62
abbrev N__law_b_digit : List Str := ["tape", "many", "place", "cell", "found"]
theorem sc__law_b_digit : FnScope N__law_b_digit ["tape", "many"] (defScope st__law_b_digit) := ⟨rfl, rfl, rfl, by decide +kernel, rfl, by decide +kernel, by decide +kernel⟩
def d__law_b_digit : DS := (sSeq (sIf (dTst (dBin oLt (dBin oIx (dVar 0) (dC (.int 2))) (dVar 1)))
  (sSeq (sSet 2 (dBin oIx (dVar 0) (dC (.int 1))))
  (sSeq (sSet 3 (dVar 2))
  (sSeq (sIf (dTst (dBin oLt (dVar 2) (dCall oLen (aCons (dBin oIx (dVar 0) (dC (.int 0))) aNil))))
  (sSet 3 (dBin oIx (dBin oIx (dVar 0) (dC (.int 0))) (dVar 2)))
  (sIf (dTst (dBin oNe (dBin oIx (dVar 0) (dC (.int 0))) (dLst aNil)))
  (sSet 3 (dBin oAdd (dBin oMod (dBin oIx (dBin oIx (dVar 0) (dC (.int 0))) (dBin oMod (dBin oMul (dVar 2) (dC (.int 7))) (dCall oLen (aCons (dBin oIx (dVar 0) (dC (.int 0))) aNil)))) (dBin oPow (dC (.int 10)) (dC (.int 6)))) (dBin oMul (dVar 2) (dC (.int 1000003)))))
  sNil))
  (sSeq (sPutL (dVar 0) (dC (.int 1)) (dBin oAdd (dVar 2) (dC (.int 1))))
  (sPutL (dVar 0) (dC (.int 2)) (dCallF f__law_b_spread (aCons (dVar 3) (aCons (dVar 2) aNil))))))))
  sNil)
  (sSeq (sSet 4 (dBin oMod (dBin oIx (dVar 0) (dC (.int 2))) (dVar 1)))
  (sSeq (sPutL (dVar 0) (dC (.int 2)) (dBin oDiv (dBin oIx (dVar 0) (dC (.int 2))) (dVar 1)))
  (sRet (dVar 4)))))
def f__law_b_digit : Fn := dFun0 5 d__law_b_digit
theorem ok__law_b_digit {k : Nat} {f : Addr} {fd : FuncData} (F : Fun K "_law_b_digit" "_law_b_digit" st__law_b_digit f fd) (b : Binds K fd ["tape", "many"] []) (m : mg "_law_b_digit" = some (.ref f)) (c__law_b_spread : Callee P w K mg base CX0 k "_law_b_spread" 2 f__law_b_spread) (m_len : mg "len" = none) : Callee P w K mg base CX0 (k + 1) "_law_b_digit" 2 f__law_b_digit := by
  have sc := sc__law_b_digit
  refine ⟨f, fd, ["tape", "many"], Fun.okD F sc rfl fun cdv A outer s H E hr => ?_, m, F.kp, b⟩
  exact (ds_cons (ds_if (dt_cmp od_lt (de_ix xd_ix (de_var 0) de_int (fun _ _ => rfl)) (de_var 1) (nomark _))
  (ds_cons (ds_set 2 sc.nd (de_ix xd_ix (de_var 0) de_int (fun _ _ => rfl)))
  (ds_cons (ds_set 3 sc.nd (de_var 2))
  (ds_cons (ds_if (dt_cmp od_lt (de_var 2) (de_callB cd_len rfl m_len PySem.boot_len (da_cons (de_ix xd_ix (de_var 0) de_int (fun _ _ => rfl)) da_nil)) (nomark _))
  (ds_one (ds_set 3 sc.nd (de_ix xd_ix (de_ix xd_ix (de_var 0) de_int (fun _ _ => rfl)) (de_var 2) (fun _ _ => rfl))))
  (ds_one (ds_if (dt_cmp (od_ne hr.units) (de_ix xd_ix (de_var 0) de_int (fun _ _ => rfl)) (de_lst da_nil) (nomark _))
  (ds_one (ds_set 3 sc.nd (de_bin od_add (de_bin od_mod (de_ix xd_ix (de_ix xd_ix (de_var 0) de_int (fun _ _ => rfl)) (de_bin od_mod (de_bin od_mul (de_var 2) de_int) (de_callB cd_len rfl m_len PySem.boot_len (da_cons (de_ix xd_ix (de_var 0) de_int (fun _ _ => rfl)) da_nil))) (fun _ _ => rfl)) (de_bin od_pow de_int de_int)) (de_bin od_mul (de_var 2) de_int))))
  ds_nil)))
  (ds_cons (ds_putL (de_var 0) de_int (de_bin od_add (de_var 2) de_int))
  (ds_one (ds_putL (de_var 0) de_int (de_callC c__law_b_spread hr thru0 (an_cons (de_var 3) (an_cons (de_var 2) an_nil)))))))))
  ds_nil)
  (ds_cons (ds_set 4 sc.nd (de_bin od_mod (de_ix xd_ix (de_var 0) de_int (fun _ _ => rfl)) (de_var 1)))
  (ds_cons (ds_putL (de_var 0) de_int (de_bin od_div (de_ix xd_ix (de_var 0) de_int (fun _ _ => rfl)) (de_var 1)))
  (ds_one (ds_ret (de_var 4))))))
/-! ### _law_b_members -/
abbrev st__law_b_members : Stmt := topS 63
abbrev N__law_b_members : List Str := ["tape", "walls", "found", "wall", "way"]
theorem sc__law_b_members : FnScope N__law_b_members ["tape", "walls"] (defScope st__law_b_members) := ⟨rfl, rfl, rfl, by decide +kernel, rfl, by decide +kernel, by decide +kernel⟩
def d__law_b_members : DS := (sSeq (sSet 2 (dCell aNil))
  (sSeq (sFor (iRange1 (aCons (dVar 1) aNil)) (gN 3)
  (sSeq (sSet 4 (dCallF f__law_b_digit (aCons (dVar 0) (aCons (dC (.int 6)) aNil))))
  (sIf (dTst (dBin oGt (dVar 4) (dC (.int 0))))
  (sExpr (dAppend (dVar 2) (dTup (aCons (dVar 3) (aCons (dBin oIx (dLst (aCons (dC (.str "come")) (aCons (dC (.str "go")) (aCons (dC (.str "both")) (aCons (dC (.str "both")) (aCons (dC (.str "both")) aNil)))))) (dBin oSub (dVar 4) (dC (.int 1)))) aNil)))))
  sNil)))
  (sRet (dCall oTuple (aCons (dVar 2) aNil)))))
def f__law_b_members : Fn := dFun0 5 d__law_b_members
theorem ok__law_b_members {k : Nat} {f : Addr} {fd : FuncData} (F : Fun K "_law_b_members" "_law_b_members" st__law_b_members f fd) (b : Binds K fd ["tape", "walls"] []) (m : mg "_law_b_members" = some (.ref f)) (c__law_b_digit : Callee P w K mg base CX0 k "_law_b_digit" 2 f__law_b_digit) (m_range : mg "range" = none) (m_tuple : mg "tuple" = none) : Callee P w K mg base CX0 (k + 1) "_law_b_members" 2 f__law_b_members := by
  have sc := sc__law_b_members
  refine ⟨f, fd, ["tape", "walls"], Fun.okD F sc rfl fun cdv A outer s H E hr => ?_, m, F.kp, b⟩
  exact (ds_cons (ds_set 2 sc.nd (de_cell da_nil))
  (ds_cons (ds_for PassesOwn.never (by rfl) (di_range1 rfl m_range (da_cons (de_var 1) da_nil)) (dg_name 3 sc.nd)
  (ds_cons (ds_set 4 sc.nd (de_callC c__law_b_digit hr thru0 (an_cons (de_var 0) (an_cons de_int an_nil))))
  (ds_one (ds_if (dt_cmp od_gt (de_var 4) de_int (nomark _))
  (ds_one (ds_expr (de_append (pe_bm PySem.F.plainAttrs_list PySem.F.slot_list_append PySem.F.type_list_append mt_append (de_var 2) (pa_cons (de_tup (da_cons (de_var 3) (da_cons (de_ix xd_ix (de_lst (da_cons de_str (da_cons de_str (da_cons de_str (da_cons de_str (da_cons de_str da_nil)))))) (de_bin od_sub (de_var 4) de_int) (fun _ _ => rfl)) da_nil))) pa_nil)))))
  ds_nil))))
  (ds_one (ds_ret (de_callTy cd_tuple rfl m_tuple (by decide +kernel) (da_cons (de_var 2) da_nil))))))
/-! ### _law_b_some -/
abbrev st__law_b_some : Stmt := topS 64
abbrev N__law_b_some : List Str := ["tape", "row"]
theorem sc__law_b_some : FnScope N__law_b_some ["tape", "row"] (defScope st__law_b_some) := ⟨rfl, rfl, rfl, by decide +kernel, rfl, by decide +kernel, by decide +kernel⟩
def d__law_b_some : DS := (sRet (dBin oIx (dVar 1) (dCallF f__law_b_digit (aCons (dVar 0) (aCons (dCall oLen (aCons (dVar 1) aNil)) aNil)))))
def f__law_b_some : Fn := dFun0 2 d__law_b_some
theorem ok__law_b_some {k : Nat} {f : Addr} {fd : FuncData} (F : Fun K "_law_b_some" "_law_b_some" st__law_b_some f fd) (b : Binds K fd ["tape", "row"] []) (m : mg "_law_b_some" = some (.ref f)) (c__law_b_digit : Callee P w K mg base CX0 k "_law_b_digit" 2 f__law_b_digit) (m_len : mg "len" = none) : Callee P w K mg base CX0 (k + 1) "_law_b_some" 2 f__law_b_some := by
  have sc := sc__law_b_some
  refine ⟨f, fd, ["tape", "row"], Fun.okD F sc rfl fun cdv A outer s H E hr => ?_, m, F.kp, b⟩
  exact (ds_one (ds_ret (de_ix xd_ix (de_var 1) (de_callC c__law_b_digit hr thru0 (an_cons (de_var 0) (an_cons (de_callB cd_len rfl m_len PySem.boot_len (da_cons (de_var 1) da_nil)) an_nil))) (fun _ _ => rfl))))
/-! ### _law_b_deed -/
abbrev st__law_b_deed : Stmt := topS 65
abbrev N__law_b_deed : List Str := ["tape", "boxes", "have", "calls", "way", "comes", "goes", "wall"]
theorem sc__law_b_deed : FnScope N__law_b_deed ["tape", "boxes", "have", "calls"] (defScope st__law_b_deed) := ⟨rfl, rfl, rfl, by decide +kernel, rfl, by decide +kernel, by decide +kernel⟩
def d__law_b_deed : DS := (sSeq (sSet 4 (dCallF f__law_b_digit (aCons (dVar 0) (aCons (dC (.int 12)) aNil))))
  (sSeq (sSet 5 (dCompK 2 (gN 7) [7] (dTst (dBin oNe (dBin oGetT (dVar 2) (dVar 7)) (dC (.str "go")))) (dVar 7)))
  (sSeq (sSet 6 (dCompK 2 (gN 7) [7] (dTst (dBin oNe (dBin oGetT (dVar 2) (dVar 7)) (dC (.str "come")))) (dVar 7)))
  (sSeq (sIf (bAnd (dTst (dBin oLt (dVar 4) (dC (.int 2)))) (dTst (dBin oGt (dVar 1) (dC (.int 0)))))
  (sRet (dTup (aCons (dC (.str "raise")) (aCons (dCallF f__law_b_digit (aCons (dVar 0) (aCons (dVar 1) aNil))) (aCons (dBin oIx (dLst (aCons (dC (.int 1)) (aCons (dC (.int 1)) (aCons (dC (.int 2)) (aCons (dC (.int 3)) (aCons (dC (.int 99)) aNil)))))) (dCallF f__law_b_digit (aCons (dVar 0) (aCons (dC (.int 5)) aNil)))) aNil)))))
  sNil)
  (sSeq (sIf (bAnd (dTst (dBin oEq (dVar 4) (dC (.int 2)))) (dTst (dBin oGt (dVar 1) (dC (.int 0)))))
  (sRet (dTup (aCons (dC (.str "await")) (aCons (dCallF f__law_b_digit (aCons (dVar 0) (aCons (dVar 1) aNil))) (aCons (dBin oIx (dLst (aCons (dC (.int 1)) (aCons (dC (.int 1)) (aCons (dC (.int 2)) (aCons (dC (.int 3)) (aCons (dC (.int 5)) (aCons (dC (.int 9999)) aNil))))))) (dCallF f__law_b_digit (aCons (dVar 0) (aCons (dC (.int 6)) aNil)))) aNil)))))
  sNil)
  (sSeq (sIf (bAnd (dTst (dBin oLt (dVar 4) (dC (.int 6)))) (dTst (dBin oNe (dVar 5) (dLst aNil))))
  (sRet (dTup (aCons (dC (.str "come")) (aCons (dCallF f__law_b_some (aCons (dVar 0) (aCons (dVar 5) aNil))) aNil))))
  sNil)
  (sSeq (sIf (bAnd (dTst (dBin oLt (dVar 4) (dC (.int 9)))) (dTst (dBin oNe (dVar 6) (dLst aNil))))
  (sRet (dTup (aCons (dC (.str "go")) (aCons (dCallF f__law_b_some (aCons (dVar 0) (aCons (dVar 6) aNil))) aNil))))
  sNil)
  (sSeq (sIf (bAnd (dTst (dBin oEq (dVar 4) (dC (.int 9)))) (bAnd (dTst (dBin oNeK (dVar 2) (dNewK))) (dTst (dBin oEq (dCallF f__law_b_digit (aCons (dVar 0) (aCons (dC (.int 3)) aNil))) (dC (.int 0))))))
  (sRet (dTup (aCons (dC (.str "leave")) (aCons (dCallF f__law_b_some (aCons (dVar 0) (aCons (dCall oListK (aCons (dVar 2) aNil)) aNil))) aNil))))
  sNil)
  (sSeq (sIf (bAnd (dTst (dBin oGt (dVar 4) (dC (.int 9)))) (dTst (dBin oNe (dVar 3) (dLst aNil))))
  (sRet (dBin oAdd (dTup (aCons (dC (.str "begin")) aNil)) (dCallF f__law_b_some (aCons (dVar 0) (aCons (dVar 3) aNil)))))
  sNil)
  (sSeq (sIf (dTst (dBin oEq (dBin oMod (dVar 4) (dC (.int 2))) (dC (.int 0))))
  (sRet (dTup (aCons (dC (.str "work")) (aCons (dBin oIx (dLst (aCons (dC (.int 0)) (aCons (dC (.int 1)) (aCons (dC (.int 2)) (aCons (dC (.int 5)) (aCons (dC (.int 999)) aNil)))))) (dCallF f__law_b_digit (aCons (dVar 0) (aCons (dC (.int 5)) aNil)))) aNil))))
  sNil)
  (sRet (dTup (aCons (dC (.str "say")) (aCons (dBin oIx (dLst (aCons (dC (.str "come")) (aCons (dC (.str "go")) (aCons (dC (.str "a")) (aCons (dC (.str "word")) aNil))))) (dCallF f__law_b_digit (aCons (dVar 0) (aCons (dC (.int 4)) aNil)))) aNil))))))))))))))
def f__law_b_deed : Fn := dFun0 8 d__law_b_deed
theorem ok__law_b_deed {k : Nat} {f : Addr} {fd : FuncData} (F : Fun K "_law_b_deed" "_law_b_deed" st__law_b_deed f fd) (b : Binds K fd ["tape", "boxes", "have", "calls"] []) (m : mg "_law_b_deed" = some (.ref f)) (c__law_b_digit : Callee P w K mg base CX0 k "_law_b_digit" 2 f__law_b_digit) (c__law_b_some : Callee P w K mg base CX0 k "_law_b_some" 2 f__law_b_some) (m_list : mg "list" = none) : Callee P w K mg base CX0 (k + 1) "_law_b_deed" 4 f__law_b_deed := by
  have sc := sc__law_b_deed
  refine ⟨f, fd, ["tape", "boxes", "have", "calls"], Fun.okD F sc rfl fun cdv A outer s H E hr => ?_, m, F.kp, b⟩
  exact (ds_cons (ds_set 4 sc.nd (de_callC c__law_b_digit hr thru0 (an_cons (de_var 0) (an_cons de_int an_nil))))
  (ds_cons (ds_setLcK (own := [("wall", 7)]) 5 (by rfl) sc.nd (sw_true rfl rfl rfl (by decide +kernel))  (blkOk_by (own := [("wall", 7)]) (N := N__law_b_deed) (sc := defScope st__law_b_deed) (by decide +kernel)) (by decide) (fun _ _ _ _ _ => (dg_name 7 sc.nd)) (fun _ _ _ _ _ => (dts_one (dt_cmp (od_ne hr.units) (de_getT (hu1 hr) (de_var 2) (de_var 7) (fun _ _ => rfl)) de_str (nomark _)))) (fun _ _ _ _ _ => (de_var 7)) (pv_of 2))
  (ds_cons (ds_setLcK (own := [("wall", 7)]) 6 (by rfl) sc.nd (sw_true rfl rfl rfl (by decide +kernel))  (blkOk_by (own := [("wall", 7)]) (N := N__law_b_deed) (sc := defScope st__law_b_deed) (by decide +kernel)) (by decide) (fun _ _ _ _ _ => (dg_name 7 sc.nd)) (fun _ _ _ _ _ => (dts_one (dt_cmp (od_ne hr.units) (de_getT (hu1 hr) (de_var 2) (de_var 7) (fun _ _ => rfl)) de_str (nomark _)))) (fun _ _ _ _ _ => (de_var 7)) (pv_of 2))
  (ds_cons (ds_if (PW.pt (dw_and (dt_cmp od_lt (de_var 4) de_int (nomark _)) (dw_and1 (dt_cmp od_gt (de_var 1) de_int (nomark _)))))
  (ds_one (ds_ret (de_tup (da_cons de_str (da_cons (de_callC c__law_b_digit hr thru0 (an_cons (de_var 0) (an_cons (de_var 1) an_nil))) (da_cons (de_ix xd_ix (de_lst (da_cons de_int (da_cons de_int (da_cons de_int (da_cons de_int (da_cons de_int da_nil)))))) (de_callC c__law_b_digit hr thru0 (an_cons (de_var 0) (an_cons de_int an_nil))) (fun _ _ => rfl)) da_nil))))))
  ds_nil)
  (ds_cons (ds_if (PW.pt (dw_and (dt_cmp (od_eq hr.units) (de_var 4) de_int (nomark _)) (dw_and1 (dt_cmp od_gt (de_var 1) de_int (nomark _)))))
  (ds_one (ds_ret (de_tup (da_cons de_str (da_cons (de_callC c__law_b_digit hr thru0 (an_cons (de_var 0) (an_cons (de_var 1) an_nil))) (da_cons (de_ix xd_ix (de_lst (da_cons de_int (da_cons de_int (da_cons de_int (da_cons de_int (da_cons de_int (da_cons de_int da_nil))))))) (de_callC c__law_b_digit hr thru0 (an_cons (de_var 0) (an_cons de_int an_nil))) (fun _ _ => rfl)) da_nil))))))
  ds_nil)
  (ds_cons (ds_if (PW.pt (dw_and (dt_cmp od_lt (de_var 4) de_int (nomark _)) (dw_and1 (dt_cmp (od_ne hr.units) (de_var 5) (de_lst da_nil) (nomark _)))))
  (ds_one (ds_ret (de_tup (da_cons de_str (da_cons (de_callC c__law_b_some hr thru0 (an_cons (de_var 0) (an_cons (de_var 5) an_nil))) da_nil)))))
  ds_nil)
  (ds_cons (ds_if (PW.pt (dw_and (dt_cmp od_lt (de_var 4) de_int (nomark _)) (dw_and1 (dt_cmp (od_ne hr.units) (de_var 6) (de_lst da_nil) (nomark _)))))
  (ds_one (ds_ret (de_tup (da_cons de_str (da_cons (de_callC c__law_b_some hr thru0 (an_cons (de_var 0) (an_cons (de_var 6) an_nil))) da_nil)))))
  ds_nil)
  (ds_cons (ds_if (PW.pt (dw_and (dt_cmp (od_eq hr.units) (de_var 4) de_int (nomark _)) (dw_and (dt_cmp (od_neK (hu1 hr)) (de_var 2) de_newK (nomark _)) (dw_and1 (dt_cmp (od_eq hr.units) (de_callC c__law_b_digit hr thru0 (an_cons (de_var 0) (an_cons de_int an_nil))) de_int (nomark _))))))
  (ds_one (ds_ret (de_tup (da_cons de_str (da_cons (de_callC c__law_b_some hr thru0 (an_cons (de_var 0) (an_cons (de_callTy (cd_listK (by rfl)) rfl m_list (by decide +kernel) (da_cons (de_var 2) da_nil)) an_nil))) da_nil)))))
  ds_nil)
  (ds_cons (ds_if (PW.pt (dw_and (dt_cmp od_gt (de_var 4) de_int (nomark _)) (dw_and1 (dt_cmp (od_ne hr.units) (de_var 3) (de_lst da_nil) (nomark _)))))
  (ds_one (ds_ret (de_bin od_add (de_tup (da_cons de_str da_nil)) (de_callC c__law_b_some hr thru0 (an_cons (de_var 0) (an_cons (de_var 3) an_nil))))))
  ds_nil)
  (ds_cons (ds_if (dt_cmp (od_eq hr.units) (de_bin od_mod (de_var 4) de_int) de_int (nomark _))
  (ds_one (ds_ret (de_tup (da_cons de_str (da_cons (de_ix xd_ix (de_lst (da_cons de_int (da_cons de_int (da_cons de_int (da_cons de_int (da_cons de_int da_nil)))))) (de_callC c__law_b_digit hr thru0 (an_cons (de_var 0) (an_cons de_int an_nil))) (fun _ _ => rfl)) da_nil)))))
  ds_nil)
  (ds_one (ds_ret (de_tup (da_cons de_str (da_cons (de_ix xd_ix (de_lst (da_cons de_str (da_cons de_str (da_cons de_str (da_cons de_str da_nil))))) (de_callC c__law_b_digit hr thru0 (an_cons (de_var 0) (an_cons de_int an_nil))) (fun _ _ => rfl)) da_nil)))))))))))))))
/-! ### _law_b_handed -/
abbrev st__law_b_handed : Stmt := topS 66
abbrev N__law_b_handed : List Str := ["have", "members", "wall", "mode"]
theorem sc__law_b_handed : FnScope N__law_b_handed ["have", "members"] (defScope st__law_b_handed) := ⟨rfl, rfl, rfl, by decide +kernel, rfl, by decide +kernel, by decide +kernel⟩
def d__law_b_handed : DS := (sRet (dCall oAll (aCons (dComp (iSeq (dVar 1)) (gTupD 2 (gsCons (gN 2) (gsCons (gN 3) gsNil))) [2, 3] bYes (dAnd (dBin (oInT false) (dVar 2) (dVar 0)) (dBin (oIn false) (dBin oGetT (dVar 0) (dVar 2)) (dTup (aCons (dVar 3) (aCons (dC (.str "both")) aNil)))))) aNil)))
def f__law_b_handed : Fn := dFun0 4 d__law_b_handed
theorem ok__law_b_handed {k : Nat} {f : Addr} {fd : FuncData} (F : Fun K "_law_b_handed" "_law_b_handed" st__law_b_handed f fd) (b : Binds K fd ["have", "members"] []) (m : mg "_law_b_handed" = some (.ref f)) (m_all : mg "all" = none) : Callee P w K mg base CX0 (k + 1) "_law_b_handed" 2 f__law_b_handed := by
  have sc := sc__law_b_handed
  refine ⟨f, fd, ["have", "members"], Fun.okD F sc rfl fun cdv A outer s H E hr => ?_, m, F.kp, b⟩
  exact (ds_one (ds_ret (de_callB (cd_all (by rfl)) rfl m_all (by decide +kernel) (da_cons (de_comp (own := [("wall", 2), ("mode", 3)]) (by rfl) sc.nd (di_seq (de_var 1)) (blkOk_by (own := [("wall", 2), ("mode", 3)]) (N := N__law_b_handed) (sc := defScope st__law_b_handed) (by decide +kernel)) (by decide) (fun _ _ _ _ _ => (dg_tup (by rfl) (dgs_cons (dg_name 2 sc.nd) (dgs_cons (dg_name 3 sc.nd) dgs_nil)))) (fun _ _ _ _ _ => dts_nil) (fun _ _ _ _ _ => (de_and (de_cmp (od_inT (hu1 hr)) (de_var 2) (de_var 0) (by rfl)) (de_one (de_cmp (od_in (hu65 hr)) (de_getT (hu1 hr) (de_var 0) (de_var 2) (fun _ _ => rfl)) (de_tup (da_cons (de_var 3) (da_cons de_str da_nil))) (by rfl)))))) da_nil))))
/-! ### _law_b_script -/
abbrev st__law_b_script : Stmt := topS 67
abbrev N__law_b_script : List Str := ["tape", "boxes", "members", "known", "most", "have", "wall", "mode", "deeds", "begins", "turn", "calls", "deed", "calling"]
theorem sc__law_b_script : FnScope N__law_b_script ["tape", "boxes", "members", "known", "most"] (defScope st__law_b_script) := ⟨rfl, rfl, rfl, by decide +kernel, rfl, by decide +kernel, by decide +kernel⟩
noncomputable def d__law_b_script : DS := (sSeq (sSet 5 (dNewK))
  (sSeq (sFor (iSeq (dVar 2)) (gTupD 2 (gsCons (gN 6) (gsCons (gN 7) gsNil)))
  (sPutT (dVar 5) (dVar 6) (dVar 7)))
  (sSeq (sSet 8 (dCell aNil))
  (sSeq (sSet 9 (dC (.int 0)))
  (sSeq (sFor (iRange1 (aCons (dCallF f__law_b_digit (aCons (dVar 0) (aCons (dBin oAdd (dVar 4) (dC (.int 1))) aNil))) aNil)) (gN 10)
  (sSeq (sSet 11 (dCompC (dVar 3) (gN 13) [13] (bAnd (dTst (dBin oLt (dVar 9) (dC (.int 2)))) (dTst (dCallF f__law_b_handed (aCons (dVar 5) (aCons (dBin oIx (dVar 13) (dC (.int 1))) aNil))))) (dVar 13)))
  (sSeq (sSet 12 (dCallF f__law_b_deed (aCons (dVar 0) (aCons (dVar 1) (aCons (dVar 5) (aCons (dVar 11) aNil))))))
  (sSeq (sSet 9 (dBin oAdd (dVar 9) (dCall oIntC (aCons (dBin oEq (dBin oIx (dVar 12) (dC (.int 0))) (dC (.str "begin"))) aNil))))
  (sSeq (sIf (dTst (dBin oEq (dBin oIx (dVar 12) (dC (.int 0))) (dC (.str "leave"))))
  (sExpr (dPopK (dVar 5) (dBin oIx (dVar 12) (dC (.int 1)))))
  sNil)
  (sExpr (dAppend (dVar 8) (dVar 12))))))))
  (sRet (dCall oTuple (aCons (dVar 8) aNil))))))))
noncomputable def f__law_b_script : Fn := dFun0 14 d__law_b_script
theorem ok__law_b_script {k : Nat} {f : Addr} {fd : FuncData} (F : Fun K "_law_b_script" "_law_b_script" st__law_b_script f fd) (b : Binds K fd ["tape", "boxes", "members", "known", "most"] []) (m : mg "_law_b_script" = some (.ref f)) (c__law_b_digit : Callee P w K mg base CX0 k "_law_b_digit" 2 f__law_b_digit) (c__law_b_handed : Callee P w K mg base CX0 k "_law_b_handed" 2 f__law_b_handed) (c__law_b_deed : Callee P w K mg base CX0 k "_law_b_deed" 4 f__law_b_deed) (m_range : mg "range" = none) (m_int : mg "int" = none) (m_tuple : mg "tuple" = none) : Callee P w K mg base CX0 (k + 1) "_law_b_script" 5 f__law_b_script := by
  have sc := sc__law_b_script
  refine ⟨f, fd, ["tape", "boxes", "members", "known", "most"], Fun.okD F sc rfl fun cdv A outer s H E hr => ?_, m, F.kp, b⟩
  exact (ds_cons (ds_set 5 sc.nd de_newK)
  (ds_cons (ds_for PassesOwn.never (by rfl) (di_seq (de_var 2)) (dg_tup (by rfl) (dgs_cons (dg_name 6 sc.nd) (dgs_cons (dg_name 7 sc.nd) dgs_nil)))
  (ds_one (ds_putT (hu1 hr) (de_var 5) (de_var 6) (de_var 7))))
  (ds_cons (ds_set 8 sc.nd (de_cell da_nil))
  (ds_cons (ds_set 9 sc.nd de_int)
  (ds_cons (ds_for PassesOwn.never (by rfl) (di_range1 rfl m_range (da_cons (de_callC c__law_b_digit hr thru0 (an_cons (de_var 0) (an_cons (de_bin od_add (de_var 4) de_int) an_nil))) da_nil)) (dg_name 10 sc.nd)
  (ds_cons (ds_setLcC (own := [("calling", 13)]) 11 (by rfl) sc.nd (sw_true rfl rfl rfl (by decide +kernel)) (de_var 3) (blkOk_by (own := [("calling", 13)]) (N := N__law_b_script) (sc := defScope st__law_b_script) (by decide +kernel)) (by decide) (fun _ _ _ _ _ => (dg_name 13 sc.nd)) (fun _ _ _ _ _ => (dts_one (PW.pt (dw_and (dt_cmp od_lt (de_var 9) de_int (nomark _)) (dw_and1 (dt_val (de_callC c__law_b_handed hr thru0 (an_cons (de_var 5) (an_cons (de_ix xd_ix (de_var 13) de_int (fun _ _ => rfl)) an_nil))))))))) (fun _ _ _ _ _ => (de_var 13)))
  (ds_cons (ds_set 12 sc.nd (de_callC c__law_b_deed hr thru0 (an_cons (de_var 0) (an_cons (de_var 1) (an_cons (de_var 5) (an_cons (de_var 11) an_nil))))))
  (ds_cons (ds_set 9 sc.nd (de_bin od_add (de_var 9) (de_callTy cd_int rfl m_int (by decide +kernel) (da_cons (de_cmp (od_eq hr.units) (de_ix xd_ix (de_var 12) de_int (fun _ _ => rfl)) de_str (nomark _)) da_nil))))
  (ds_cons (ds_if (dt_cmp (od_eq hr.units) (de_ix xd_ix (de_var 12) de_int (fun _ _ => rfl)) de_str (nomark _))
  (ds_one (ds_expr (de_popK (de_var 5) (de_ix xd_ix (de_var 12) de_int (fun _ _ => rfl)) ⟨by rfl, by rfl, by rfl, by rfl⟩)))
  ds_nil)
  (ds_one (ds_expr (de_append (pe_bm PySem.F.plainAttrs_list PySem.F.slot_list_append PySem.F.type_list_append mt_append (de_var 8) (pa_cons (de_var 12) pa_nil))))))))))
  (ds_one (ds_ret (de_callTy cd_tuple rfl m_tuple (by decide +kernel) (da_cons (de_var 8) da_nil)))))))))
/-! ### _law_b_house -/
abbrev st__law_b_house : Stmt := topS 68
abbrev N__law_b_house : List Str := ["tape", "scripts", "firsts", "most", "boxes", "walls", "many", "known", "rows", "k", "members", "some"]
theorem sc__law_b_house : FnScope N__law_b_house ["tape", "scripts", "firsts", "most"] (defScope st__law_b_house) := ⟨rfl, rfl, rfl, by decide +kernel, rfl, by decide +kernel, by decide +kernel⟩
noncomputable def d__law_b_house : DS := (sSeq (sSet 4 (dCallF f__law_b_digit (aCons (dVar 0) (aCons (dC (.int 4)) aNil))))
  (sSeq (sSet 5 (dCallF f__law_b_digit (aCons (dVar 0) (aCons (dC (.int 4)) aNil))))
  (sSeq (sSet 6 (dBin oAdd (dC (.int 1)) (dCallF f__law_b_digit (aCons (dVar 0) (aCons (dVar 1) aNil)))))
  (sSeq (sSet 7 (dCell aNil))
  (sSeq (sSet 8 (dCell aNil))
  (sSeq (sFor (iRange1 (aCons (dVar 6) aNil)) (gN 9)
  (sSeq (sSet 10 (dCallF f__law_b_members (aCons (dVar 0) (aCons (dVar 5) aNil))))
  (sSeq (sExpr (dAppend (dVar 8) (dCallF f__law_b_script (aCons (dVar 0) (aCons (dVar 4) (aCons (dVar 10) (aCons (dVar 7) (aCons (dVar 3) aNil))))))))
  (sExpr (dAppend (dVar 7) (dTup (aCons (dBin oSub (dBin oSub (dVar 6) (dC (.int 1))) (dVar 9)) (aCons (dVar 10) aNil))))))))
  (sSeq (sSet 11 (dComp (iRange1 (aCons (dBin oAdd (dC (.int 1)) (dCallF f__law_b_digit (aCons (dVar 0) (aCons (dVar 2) aNil)))) aNil)) (gN 9) [9] bYes (dCallF f__law_b_some (aCons (dVar 0) (aCons (dVar 7) aNil)))))
  (sRet (dTup (aCons (dVar 4) (aCons (dVar 5) (aCons (dCall oTuple (aCons (dVar 11) aNil)) (aCons (dCall oTuple (aCons (dRev (dVar 8)) aNil)) aNil)))))))))))))
noncomputable def f__law_b_house : Fn := dFun0 12 d__law_b_house
theorem ok__law_b_house {k : Nat} {f : Addr} {fd : FuncData} (F : Fun K "_law_b_house" "_law_b_house" st__law_b_house f fd) (b : Binds K fd ["tape", "scripts", "firsts", "most"] []) (m : mg "_law_b_house" = some (.ref f)) (c__law_b_digit : Callee P w K mg base CX0 k "_law_b_digit" 2 f__law_b_digit) (c__law_b_members : Callee P w K mg base CX0 k "_law_b_members" 2 f__law_b_members) (c__law_b_script : Callee P w K mg base CX0 k "_law_b_script" 5 f__law_b_script) (c__law_b_some : Callee P w K mg base CX0 k "_law_b_some" 2 f__law_b_some) (m_range : mg "range" = none) (m_tuple : mg "tuple" = none) : Callee P w K mg base CX0 (k + 1) "_law_b_house" 4 f__law_b_house := by
  have sc := sc__law_b_house
  refine ⟨f, fd, ["tape", "scripts", "firsts", "most"], Fun.okD F sc rfl fun cdv A outer s H E hr => ?_, m, F.kp, b⟩
  exact (ds_cons (ds_set 4 sc.nd (de_callC c__law_b_digit hr thru0 (an_cons (de_var 0) (an_cons de_int an_nil))))
  (ds_cons (ds_set 5 sc.nd (de_callC c__law_b_digit hr thru0 (an_cons (de_var 0) (an_cons de_int an_nil))))
  (ds_cons (ds_set 6 sc.nd (de_bin od_add de_int (de_callC c__law_b_digit hr thru0 (an_cons (de_var 0) (an_cons (de_var 1) an_nil)))))
  (ds_cons (ds_set 7 sc.nd (de_cell da_nil))
  (ds_cons (ds_set 8 sc.nd (de_cell da_nil))
  (ds_cons (ds_for PassesOwn.never (by rfl) (di_range1 rfl m_range (da_cons (de_var 6) da_nil)) (dg_name 9 sc.nd)
  (ds_cons (ds_set 10 sc.nd (de_callC c__law_b_members hr thru0 (an_cons (de_var 0) (an_cons (de_var 5) an_nil))))
  (ds_cons (ds_expr (de_append (pe_bm PySem.F.plainAttrs_list PySem.F.slot_list_append PySem.F.type_list_append mt_append (de_var 8) (pa_cons (de_callC c__law_b_script hr thru0 (an_cons (de_var 0) (an_cons (de_var 4) (an_cons (de_var 10) (an_cons (de_var 7) (an_cons (de_var 3) an_nil)))))) pa_nil))))
  (ds_one (ds_expr (de_append (pe_bm PySem.F.plainAttrs_list PySem.F.slot_list_append PySem.F.type_list_append mt_append (de_var 7) (pa_cons (de_tup (da_cons (de_bin od_sub (de_bin od_sub (de_var 6) de_int) (de_var 9)) (da_cons (de_var 10) da_nil))) pa_nil))))))))
  (ds_cons (ds_setLc (own := [("k", 9)]) 11 (by rfl) sc.nd (sw_true rfl rfl rfl (by decide +kernel)) (di_range1 rfl m_range (da_cons (de_bin od_add de_int (de_callC c__law_b_digit hr thru0 (an_cons (de_var 0) (an_cons (de_var 2) an_nil)))) da_nil)) (blkOk_by (own := [("k", 9)]) (N := N__law_b_house) (sc := defScope st__law_b_house) (by decide +kernel)) (by decide) (fun _ _ _ _ _ => (dg_name 9 sc.nd)) (fun _ _ _ _ _ => dts_nil) (fun _ _ _ _ _ => (de_callC c__law_b_some hr thru0 (an_cons (de_var 0) (an_cons (de_var 7) an_nil)))))
  (ds_one (ds_ret (de_tup (da_cons (de_var 4) (da_cons (de_var 5) (da_cons (de_callTy cd_tuple rfl m_tuple (by decide +kernel) (da_cons (de_var 11) da_nil)) (da_cons (de_callTy cd_tuple rfl m_tuple (by decide +kernel) (da_cons (de_rev (de_var 8)) da_nil)) da_nil))))))))))))))
/-! ### _law_b_door -/
abbrev st__law_b_door : Stmt := topS 69
abbrev N__law_b_door : List Str := ["way", "house"]
theorem sc__law_b_door : FnScope N__law_b_door ["way", "house"] (defScope st__law_b_door) := ⟨rfl, rfl, rfl, by decide +kernel, rfl, by decide +kernel, by decide +kernel⟩
noncomputable def d__law_b_door : DS := (sSeq (sIf (dTst (dBin oEq (dVar 0) (dC (.int 0))))
  (sRet (dCallF f_need_house (aCons (dVar 1) aNil)))
  sNil)
  (sSeq (sIf (dTst (dBin oEq (dVar 0) (dC (.int 1))))
  (sRet (dCallF f_hands (aCons (dVar 1) aNil)))
  sNil)
  (sSeq (sIf (dTst (dBin oEq (dVar 0) (dC (.int 2))))
  (sRet (dCallF f_first_stand (aCons (dVar 1) aNil)))
  sNil)
  (sSeq (sIf (dTst (dBin oEq (dVar 0) (dC (.int 3))))
  (sRet (dCallF f_is_stand (aCons (dVar 1) (aCons (dNewK) aNil))))
  sNil)
  (sSeq (sIf (dTst (dBin oEq (dVar 0) (dC (.int 4))))
  (sRet (dCallF f_numbers (aCons (dVar 1) (aCons (dNewK) aNil))))
  sNil)
  (sSeq (sIf (dTst (dBin oEq (dVar 0) (dC (.int 5))))
  (sRet (dCallF f_lifted (aCons (dVar 1) (aCons (dNewK) (aCons (dUn oNeg (dC (.int 1))) aNil)))))
  sNil)
  (sSeq (sIf (dTst (dBin oEq (dVar 0) (dC (.int 6))))
  (sRet (dCallF f_may_go (aCons (dVar 1) (aCons (dDisp1T (dTup (aCons (dC (.int 0)) aNil)) (dUn oNeg (dC (.int 1)))) aNil))))
  sNil)
  (sRet (dCallF f_behind (aCons (dVar 1) (aCons (dNewK) (aCons (dTup (aCons (dC (.int 9)) (aCons (dC (.int 9)) aNil))) aNil))))))))))))
noncomputable def f__law_b_door : Fn := dFun 2 d__law_b_door
theorem ok__law_b_door {k : Nat} {f : Addr} {fd : FuncData} (F : Fun K "_law_b_door" "_law_b_door" st__law_b_door f fd) (b : Binds K fd ["way", "house"] []) (m : mg "_law_b_door" = some (.ref f)) (c_need_house : Callee P w K mg base (L2.CX P w) k "need_house" 1 f_need_house) (c_hands : Callee P w K mg base (L2.CX P w) k "hands" 1 f_hands) (c_first_stand : Callee P w K mg base (L2.CX P w) k "first_stand" 1 f_first_stand) (c_is_stand : Callee P w K mg base (L2.CX P w) k "is_stand" 2 f_is_stand) (c_numbers : Callee P w K mg base (L2.CX P w) k "numbers" 2 f_numbers) (c_lifted : Callee P w K mg base (L2.CX P w) k "lifted" 3 f_lifted) (c_may_go : Callee P w K mg base (L2.CX P w) k "may_go" 2 f_may_go) (c_behind : Callee P w K mg base (L2.CX P w) k "behind" 3 f_behind) : Callee P w K mg base (L2.CX P w) (k + 1) "_law_b_door" 2 f__law_b_door := by
  have sc := sc__law_b_door
  refine ⟨f, fd, ["way", "house"], Fun.okXD F sc rfl fun cdv A outer s H E hr => ?_, m, F.kp, b⟩
  exact (ds_cons (ds_if (dt_cmp (od_eq hr.units) (de_var 0) de_int (nomark _))
  (ds_one (ds_ret (de_callC c_need_house hr (thruX (takes_of rfl rfl rfl rfl)) (an_cons (de_var 1) an_nil))))
  ds_nil)
  (ds_cons (ds_if (dt_cmp (od_eq hr.units) (de_var 0) de_int (nomark _))
  (ds_one (ds_ret (de_callC c_hands hr (thruX (takes_of rfl rfl rfl rfl)) (an_cons (de_var 1) an_nil))))
  ds_nil)
  (ds_cons (ds_if (dt_cmp (od_eq hr.units) (de_var 0) de_int (nomark _))
  (ds_one (ds_ret (de_callC c_first_stand hr (thruX (takes_of rfl rfl rfl rfl)) (an_cons (de_var 1) an_nil))))
  ds_nil)
  (ds_cons (ds_if (dt_cmp (od_eq hr.units) (de_var 0) de_int (nomark _))
  (ds_one (ds_ret (de_callC c_is_stand hr (thruX (takes_of rfl rfl rfl rfl)) (an_cons (de_var 1) (an_cons de_newK an_nil)))))
  ds_nil)
  (ds_cons (ds_if (dt_cmp (od_eq hr.units) (de_var 0) de_int (nomark _))
  (ds_one (ds_ret (de_callC c_numbers hr (thruX (takes_of rfl rfl rfl rfl)) (an_cons (de_var 1) (an_cons de_newK an_nil)))))
  ds_nil)
  (ds_cons (ds_if (dt_cmp (od_eq hr.units) (de_var 0) de_int (nomark _))
  (ds_one (ds_ret (de_callC c_lifted hr (thruX (takes_of rfl rfl rfl rfl)) (an_cons (de_var 1) (an_cons de_newK (an_cons (de_un ud_neg de_int) an_nil))))))
  ds_nil)
  (ds_cons (ds_if (dt_cmp (od_eq hr.units) (de_var 0) de_int (nomark _))
  (ds_one (ds_ret (de_callC c_may_go hr (thruX (takes_of rfl rfl rfl rfl)) (an_cons (de_var 1) (an_cons (de_disp1T (hu1 hr) (de_tup (da_cons de_int da_nil)) (de_un ud_neg de_int)) an_nil)))))
  ds_nil)
  (ds_one (ds_ret (de_callC c_behind hr (thruX (takes_of rfl rfl rfl rfl)) (an_cons (de_var 1) (an_cons de_newK (an_cons (de_tup (da_cons de_int (da_cons de_int da_nil))) an_nil)))))))))))))
/-! ### _law_b_later_door -/
abbrev st__law_b_later_door : Stmt := topS 70
abbrev N__law_b_later_door : List Str := ["way", "house"]
theorem sc__law_b_later_door : FnScope N__law_b_later_door ["way", "house"] (defScope st__law_b_later_door) := ⟨rfl, rfl, rfl, by decide +kernel, rfl, by decide +kernel, by decide +kernel⟩
noncomputable def d__law_b_later_door : DS := (sSeq (sIf (dTst (dBin oEq (dVar 0) (dC (.int 8))))
  (sRet (dCallF f_played (aCons (dVar 1) (aCons (dLst (aCons (dTup aNil) aNil)) aNil))))
  sNil)
  (sSeq (sIf (dTst (dBin oEq (dVar 0) (dC (.int 9))))
  (sRet (dCallF f_is_full (aCons (dVar 1) (aCons (dLst (aCons (dTup (aCons (dC (.int 99)) aNil)) aNil)) aNil))))
  sNil)
  (sSeq (sIf (dTst (dBin oEq (dVar 0) (dC (.int 10))))
  (sRet (dCallF f_gone_on (aCons (dVar 1) (aCons (dLst (aCons (dTup (aCons (dUn oNeg (dC (.int 1))) aNil)) aNil)) aNil))))
  sNil)
  (sSeq (sIf (dTst (dBin oEq (dVar 0) (dC (.int 11))))
  (sRet (dCallF f_end (aCons (dVar 1) aNil)))
  sNil)
  (sSeq (sIf (dTst (dBin oEq (dVar 0) (dC (.int 12))))
  (sRet (dCallF f_is_knot (aCons (dVar 1) (aCons (dLst (aCons (dTup (aCons (dC (.int 0)) aNil)) aNil)) (aCons (dNewK) aNil)))))
  sNil)
  (sRet (dCallF f__law_b_door (aCons (dVar 0) (aCons (dVar 1) aNil)))))))))
noncomputable def f__law_b_later_door : Fn := dFun 2 d__law_b_later_door
theorem ok__law_b_later_door {k : Nat} {f : Addr} {fd : FuncData} (F : Fun K "_law_b_later_door" "_law_b_later_door" st__law_b_later_door f fd) (b : Binds K fd ["way", "house"] []) (m : mg "_law_b_later_door" = some (.ref f)) (c_played : Callee P w K mg base (L2.CX P w) k "played" 2 f_played) (c_is_full : Callee P w K mg base (L2.CX P w) k "is_full" 2 f_is_full) (c_gone_on : Callee P w K mg base (L2.CX P w) k "gone_on" 2 f_gone_on) (c_end : Callee P w K mg base (L2.CX P w) k "end" 1 f_end) (c_is_knot : Callee P w K mg base (L2.CX P w) k "is_knot" 3 f_is_knot) (c__law_b_door : Callee P w K mg base (L2.CX P w) k "_law_b_door" 2 f__law_b_door) : Callee P w K mg base (L2.CX P w) (k + 1) "_law_b_later_door" 2 f__law_b_later_door := by
  have sc := sc__law_b_later_door
  refine ⟨f, fd, ["way", "house"], Fun.okXD F sc rfl fun cdv A outer s H E hr => ?_, m, F.kp, b⟩
  exact (ds_cons (ds_if (dt_cmp (od_eq hr.units) (de_var 0) de_int (nomark _))
  (ds_one (ds_ret (de_callC c_played hr (thruX (takes_of rfl rfl rfl rfl)) (an_cons (de_var 1) (an_cons (de_lst (da_cons (de_tup da_nil) da_nil)) an_nil)))))
  ds_nil)
  (ds_cons (ds_if (dt_cmp (od_eq hr.units) (de_var 0) de_int (nomark _))
  (ds_one (ds_ret (de_callC c_is_full hr (thruX (takes_of rfl rfl rfl rfl)) (an_cons (de_var 1) (an_cons (de_lst (da_cons (de_tup (da_cons de_int da_nil)) da_nil)) an_nil)))))
  ds_nil)
  (ds_cons (ds_if (dt_cmp (od_eq hr.units) (de_var 0) de_int (nomark _))
  (ds_one (ds_ret (de_callC c_gone_on hr (thruX (takes_of rfl rfl rfl rfl)) (an_cons (de_var 1) (an_cons (de_lst (da_cons (de_tup (da_cons (de_un ud_neg de_int) da_nil)) da_nil)) an_nil)))))
  ds_nil)
  (ds_cons (ds_if (dt_cmp (od_eq hr.units) (de_var 0) de_int (nomark _))
  (ds_one (ds_ret (de_callC c_end hr (thruX (takes_of rfl rfl rfl rfl)) (an_cons (de_var 1) an_nil))))
  ds_nil)
  (ds_cons (ds_if (dt_cmp (od_eq hr.units) (de_var 0) de_int (nomark _))
  (ds_one (ds_ret (de_callC c_is_knot hr (thruX (takes_of rfl rfl rfl rfl)) (an_cons (de_var 1) (an_cons (de_lst (da_cons (de_tup (da_cons de_int da_nil)) da_nil)) (an_cons de_newK an_nil))))))
  ds_nil)
  (ds_one (ds_ret (de_callC c__law_b_door hr (thruX (takes_of rfl rfl rfl rfl)) (an_cons (de_var 0) (an_cons (de_var 1) an_nil))))))))))
/-! ### _law_b_refused -/
abbrev st__law_b_refused : Stmt := topS 71
abbrev N__law_b_refused : List Str := ["way", "house", "fits", "e"]
theorem sc__law_b_refused : FnScope N__law_b_refused ["way", "house"] (defScope st__law_b_refused) := ⟨rfl, rfl, rfl, by decide +kernel, rfl, by decide +kernel, by decide +kernel⟩
noncomputable def d__law_b_refused : DS := (sSeq (sSet 2 (dC (.bl false)))
  (sSeq (sTryB ["NoHouse"] 3 2 (fun c => (fun b => (fun b => (fun b => (fun b => (b && ((!(lkB [("NoHouse", false)] c)) && (!(lkB [("NoHouse", false)] c))))) ((b && ((!(lkB [("NoHouse", false)] c)) && ((!(lkB [("NoHouse", false)] c)) && (!(lkB [("NoHouse", false)] c))))))) ((b && ((!(lkB [("NoHouse", false)] c)) && ((!(lkB [("NoHouse", false)] c)) && (!(lkB [("NoHouse", false)] c))))))) (((lkB [("NoHouse", true)] c) && ((lkB [("NoHouse", true)] c) && (!(lkB [("NoHouse", false)] c))))))) (sExpr (dCallF f__law_b_later_door (aCons (dVar 0) (aCons (dVar 1) aNil)))))
  (sRet (dVar 2))))
noncomputable def f__law_b_refused : Fn := dFun0 4 d__law_b_refused
theorem ok__law_b_refused {k : Nat} {f : Addr} {fd : FuncData} (F : Fun K "_law_b_refused" "_law_b_refused" st__law_b_refused f fd) (b : Binds K fd ["way", "house"] []) (m : mg "_law_b_refused" = some (.ref f)) (c__law_b_later_door : Callee P w K mg base (L2.CX P w) k "_law_b_later_door" 2 f__law_b_later_door) (m_isinstance : mg "isinstance" = none) (m_ValueError : mg "ValueError" = none) (t_WallError : CatC K mg "WallError" ["NoHouse"]) (i_NoHouse : IsC K mg "NoHouse" [("NoHouse", true)]) (i_NoStand : IsC K mg "NoStand" [("NoHouse", false)]) (i_NoHand : IsC K mg "NoHand" [("NoHouse", false)]) (i_NoDeed : IsC K mg "NoDeed" [("NoHouse", false)]) (i_NoWall : IsC K mg "NoWall" [("NoHouse", false)]) (i_NoCount : IsC K mg "NoCount" [("NoHouse", false)]) (i_TooMany : IsC K mg "TooMany" [("NoHouse", false)]) (i_NoText : IsC K mg "NoText" [("NoHouse", false)]) (i_NoRow : IsC K mg "NoRow" [("NoHouse", false)]) (i_NoName : IsC K mg "NoName" [("NoHouse", false)]) (i_ValueError : IsB K mg "ValueError" [("NoHouse", true)]) : Callee P w K mg base CX0 (k + 1) "_law_b_refused" 2 f__law_b_refused := by
  have sc := sc__law_b_refused
  refine ⟨f, fd, ["way", "house"], Fun.okD F sc rfl fun cdv A outer s H E hr => ?_, m, F.kp, b⟩
  exact (ds_cons (ds_set 2 sc.nd de_bl)
  (ds_cons (ds_tryB rfl rfl sc.nd (by decide) t_WallError rfl takes0 (fun W pn xe tk =>
  (dw_one (dw_expr (de_callC c__law_b_later_door hr (thruX tk) (an_cons (de_var 0) (an_cons (de_var 1) an_nil)))))) fun c hc D hD a oe pn hz hf =>
  (hs_cons (i := 3) (j := 2) (f := fun b => ((lkB [("NoHouse", true)] c) && ((lkB [("NoHouse", true)] c) && (!(lkB [("NoHouse", false)] c))))) (g := (fun b => (fun b => (fun b => (b && ((!(lkB [("NoHouse", false)] c)) && (!(lkB [("NoHouse", false)] c))))) ((b && ((!(lkB [("NoHouse", false)] c)) && ((!(lkB [("NoHouse", false)] c)) && (!(lkB [("NoHouse", false)] c))))))) ((b && ((!(lkB [("NoHouse", false)] c)) && ((!(lkB [("NoHouse", false)] c)) && (!(lkB [("NoHouse", false)] c)))))))) (h_set sc.nd rfl rfl (h_and (h_isB (n := "e") (x := "ValueError") i_ValueError hc hD hz hf rfl rfl (by decide) (by decide) rfl m_ValueError (by decide +kernel) m_isinstance) (h_and (h_isE (n := "e") (x := "NoHouse") i_NoHouse hc hD hz hf rfl rfl (by decide) (by decide) rfl m_isinstance) (h_one (h_not (h_isE (n := "e") (x := "NoStand") i_NoStand hc hD hz hf rfl rfl (by decide) (by decide) rfl m_isinstance)))))) (hs_cons (i := 3) (j := 2) (f := fun b => (b && ((!(lkB [("NoHouse", false)] c)) && ((!(lkB [("NoHouse", false)] c)) && (!(lkB [("NoHouse", false)] c)))))) (g := (fun b => (fun b => (b && ((!(lkB [("NoHouse", false)] c)) && (!(lkB [("NoHouse", false)] c))))) ((b && ((!(lkB [("NoHouse", false)] c)) && ((!(lkB [("NoHouse", false)] c)) && (!(lkB [("NoHouse", false)] c)))))))) (h_set sc.nd rfl rfl (h_and (h_var (m := "fits") rfl rfl (by decide) (by decide)) (h_and (h_not (h_isE (n := "e") (x := "NoHand") i_NoHand hc hD hz hf rfl rfl (by decide) (by decide) rfl m_isinstance)) (h_and (h_not (h_isE (n := "e") (x := "NoDeed") i_NoDeed hc hD hz hf rfl rfl (by decide) (by decide) rfl m_isinstance)) (h_one (h_not (h_isE (n := "e") (x := "NoWall") i_NoWall hc hD hz hf rfl rfl (by decide) (by decide) rfl m_isinstance))))))) (hs_cons (i := 3) (j := 2) (f := fun b => (b && ((!(lkB [("NoHouse", false)] c)) && ((!(lkB [("NoHouse", false)] c)) && (!(lkB [("NoHouse", false)] c)))))) (g := (fun b => (b && ((!(lkB [("NoHouse", false)] c)) && (!(lkB [("NoHouse", false)] c)))))) (h_set sc.nd rfl rfl (h_and (h_var (m := "fits") rfl rfl (by decide) (by decide)) (h_and (h_not (h_isE (n := "e") (x := "NoCount") i_NoCount hc hD hz hf rfl rfl (by decide) (by decide) rfl m_isinstance)) (h_and (h_not (h_isE (n := "e") (x := "TooMany") i_TooMany hc hD hz hf rfl rfl (by decide) (by decide) rfl m_isinstance)) (h_one (h_not (h_isE (n := "e") (x := "NoText") i_NoText hc hD hz hf rfl rfl (by decide) (by decide) rfl m_isinstance))))))) (hs_one (h_set sc.nd rfl rfl (h_and (h_var (m := "fits") rfl rfl (by decide) (by decide)) (h_and (h_not (h_isE (n := "e") (x := "NoRow") i_NoRow hc hD hz hf rfl rfl (by decide) (by decide) rfl m_isinstance)) (h_one (h_not (h_isE (n := "e") (x := "NoName") i_NoName hc hD hz hf rfl rfl (by decide) (by decide) rfl m_isinstance))))))) (by decide)) (by decide)) (by decide)))
  (ds_one (ds_ret (de_var 2)))))
/-! ### law -/
abbrev st_law : Stmt := topS 72
abbrev N_law : List Str := ["script", "tape", "k", "house", "boxes", "walls", "firsts", "scripts", "bad", "thing", "way"]
theorem sc_law : FnScope N_law ["script"] (defScope st_law) := ⟨rfl, rfl, rfl, by decide +kernel, rfl, by decide +kernel, by decide +kernel⟩
noncomputable def d_law : DS := (sSeq (sSet 1 (dCell (aCons (dVar 0) (aCons (dC (.int 0)) (aCons (dC (.int 0)) aNil)))))
  (sSeq (sFor (iRange1 (aCons (dC (.int 3)) aNil)) (gN 2)
  (sSeq (sIf (bAnd (dTst (dBin oGt (dVar 2) (dC (.int 1)))) (dTst (dBin oGe (dBin oIx (dVar 1) (dC (.int 1))) (dCall oLen (aCons (dVar 0) aNil)))))
  (sFl .bk)
  sNil)
  (sSeq (sSet 3 (dCallF f__law_b_house (aCons (dVar 1) (aCons (dC (.int 3)) (aCons (dC (.int 4)) (aCons (dC (.int 6)) aNil))))))
  (sSeq (sIf (dTst (dBin oIsNot (dCallF f_need_house (aCons (dVar 3) aNil)) (dC .non)))
  (sRet (dC (.bl false)))
  sNil)
  (sSeq (sAsg (dVar 3) (gTupD 4 (gsCons (gN 4) (gsCons (gN 5) (gsCons (gN 6) (gsCons (gN 7) gsNil))))))
  (sSeq (sSet 8 (dLst (aCons (dC .non) (aCons (dTup aNil) (aCons (dLst (aCons (dVar 4) (aCons (dVar 5) (aCons (dVar 6) (aCons (dVar 7) aNil))))) (aCons (dTup (aCons (dC (.int 100)) (aCons (dVar 5) (aCons (dVar 6) (aCons (dVar 7) aNil))))) (aCons (dTup (aCons (dVar 4) (aCons (dVar 5) (aCons (dTup aNil) (aCons (dVar 7) aNil))))) aNil)))))))
  (sSeq (sSet 8 (dBin oAdd (dVar 8) (dLst (aCons (dTup (aCons (dVar 4) (aCons (dVar 5) (aCons (dVar 6) (aCons (dTup aNil) aNil))))) (aCons (dTup (aCons (dVar 4) (aCons (dC (.int 1)) (aCons (dTup (aCons (dTup (aCons (dC (.int 0)) (aCons (dTup aNil) aNil))) aNil)) (aCons (dTup (aCons (dTup (aCons (dTup (aCons (dC (.str "go")) (aCons (dC (.int 0)) aNil))) aNil)) aNil)) aNil))))) (aCons (dTup (aCons (dVar 4) (aCons (dVar 5) (aCons (dVar 6) aNil)))) aNil))))))
  (sFor (iSeq (dVar 8)) (gN 9)
  (sFor (iRange1 (aCons (dC (.int 13)) aNil)) (gN 10)
  (sIf (bNot (dTst (dCallF f__law_b_refused (aCons (dVar 10) (aCons (dVar 9) aNil)))))
  (sRet (dC (.bl false)))
  sNil))))))))))
  (sRet (dC (.bl true)))))
noncomputable def f_law : Fn := dFun0 11 d_law
theorem ok_law {k : Nat} {f : Addr} {fd : FuncData} (F : Fun K "law" "law" st_law f fd) (c__law_b_house : Callee P w K mg base CX0 k "_law_b_house" 4 f__law_b_house) (c_need_house : Callee P w K mg base (L2.CX P w) k "need_house" 1 f_need_house) (c__law_b_refused : Callee P w K mg base CX0 k "_law_b_refused" 2 f__law_b_refused) (m_range : mg "range" = none) (m_len : mg "len" = none) : FnOk P w K mg base CX0 (k + 1) f fd ["script"] (spD K mg 1 f_law) := by
  have sc := sc_law
  refine Fun.okD F sc rfl fun cdv A outer s H E hr => ?_
  exact (ds_cons (ds_set 1 sc.nd (de_cell (da_cons (de_var 0) (da_cons de_int (da_cons de_int da_nil)))))
  (ds_cons (ds_for PassesOwn.never (by rfl) (di_range1 rfl m_range (da_cons de_int da_nil)) (dg_name 2 sc.nd)
  (ds_cons (ds_if (PW.pt (dw_and (dt_cmp od_gt (de_var 2) de_int (nomark _)) (dw_and1 (dt_cmp od_ge (de_ix xd_ix (de_var 1) de_int (fun _ _ => rfl)) (de_callB cd_len rfl m_len PySem.boot_len (da_cons (de_var 0) da_nil)) (nomark _)))))
  (ds_one ds_break)
  ds_nil)
  (ds_cons (ds_set 3 sc.nd (de_callC c__law_b_house hr thru0 (an_cons (de_var 1) (an_cons de_int (an_cons de_int (an_cons de_int an_nil))))))
  (ds_cons (ds_if (dt_cmp od_isNot (de_callC c_need_house hr (thruX takes0) (an_cons (de_var 3) an_nil)) de_non (nomark _))
  (ds_one (ds_ret de_bl))
  ds_nil)
  (ds_cons (ds_asg (de_var 3) (dg_tup (by rfl) (dgs_cons (dg_name 4 sc.nd) (dgs_cons (dg_name 5 sc.nd) (dgs_cons (dg_name 6 sc.nd) (dgs_cons (dg_name 7 sc.nd) dgs_nil))))))
  (ds_cons (ds_set 8 sc.nd (de_lst (da_cons de_non (da_cons (de_tup da_nil) (da_cons (de_lst (da_cons (de_var 4) (da_cons (de_var 5) (da_cons (de_var 6) (da_cons (de_var 7) da_nil))))) (da_cons (de_tup (da_cons de_int (da_cons (de_var 5) (da_cons (de_var 6) (da_cons (de_var 7) da_nil))))) (da_cons (de_tup (da_cons (de_var 4) (da_cons (de_var 5) (da_cons (de_tup da_nil) (da_cons (de_var 7) da_nil))))) da_nil)))))))
  (ds_cons (ds_set 8 sc.nd (de_bin od_add (de_var 8) (de_lst (da_cons (de_tup (da_cons (de_var 4) (da_cons (de_var 5) (da_cons (de_var 6) (da_cons (de_tup da_nil) da_nil))))) (da_cons (de_tup (da_cons (de_var 4) (da_cons de_int (da_cons (de_tup (da_cons (de_tup (da_cons de_int (da_cons (de_tup da_nil) da_nil))) da_nil)) (da_cons (de_tup (da_cons (de_tup (da_cons (de_tup (da_cons de_str (da_cons de_int da_nil))) da_nil)) da_nil)) da_nil))))) (da_cons (de_tup (da_cons (de_var 4) (da_cons (de_var 5) (da_cons (de_var 6) da_nil)))) da_nil))))))
  (ds_one (ds_for PassesOwn.never (by rfl) (di_seq (de_var 8)) (dg_name 9 sc.nd)
  (ds_one (ds_for PassesOwn.never (by rfl) (di_range1 rfl m_range (da_cons de_int da_nil)) (dg_name 10 sc.nd)
  (ds_one (ds_if (dt_not (dt_val (de_callC c__law_b_refused hr thru0 (an_cons (de_var 10) (an_cons (de_var 9) an_nil)))))
  (ds_one (ds_ret de_bl))
  ds_nil)))))))))))))
  (ds_one (ds_ret de_bl))))
end
end G
end DL
end L2

set_option Elab.async false
set_option linter.all false
set_option maxRecDepth 100000
namespace L2
namespace DL
open PySem PySem.Spec PyProof.Rows
local macro_rules
  | `(tactic| simp_arith [$ls,*]) => `(tactic| simp only [wps, w_C, w_Var, k_Var, w_Bin, k_Bin1, k_Bin2, w_Tst, k_B, w_Chain, k_Ch1, k_Ch2, k_Ch3t, k_Ch3f, k_Ch4, w_And, w_Or, w_Not, k_Andt, k_Andf, k_Ort, k_Orf, k_Not, w_bAnd, w_bOr, w_bNot, w_bYes, k_bAndt, k_bAndf, k_bOrt, k_bOrf, k_bNot, w_dIf, k_dIft, k_dIff, w_aNil, w_aCons, k_Cons1, k_Cons2, w_Tup, w_Lst, w_Cell, k_Tup, k_Lst, k_Cell, w_Call, k_Call, w_CallF, k_CallF, w_CallN, k_CallN, k_New, k_AddN1, w_Un, k_Un, w_Sl, k_Sl1, k_Sl2, k_Sl3, w_No, w_So, k_So, w_iSeq, k_Items, w_Range1, w_Range2, k_Rng1, k_Rng2, w_iEnum, k_Enum, w_Comp, k_Comp, k_AsL, w_TupRg, w_LstRg, k_TupRg, k_LstRg, w_Rev, k_Rev, rev_tup, rev_lst, k_Di1, k_PT1, k_PT2, w_Nil, w_Nop, w_Fl, w_Seq, k_Seqn, k_Seqr, k_Seqb, k_Seqc, w_Expr, k_Drop, w_Ret, k_Ret, w_Set, k_Set, w_Asg, k_Asg1, k_Nx, w_If, k_Ift, k_Iff, w_For, k_For, k_Put1, k_Put2, w_Fun, w_Fun0, k_Funn, k_Funr, w_newK, w_newT, asB_bl, gN, gTupD, gsCons, gsNil, wipeE, itemsOf, seqItems, len_str, add_ii, sub_ii, neg_i, lt_ii, le_ii, gt_ii, ge_ii, eq_ii, ne_ii, eq_ss, ne_ss, isnot_bb, is_bb, is_non, isnot_non, isNonD, ix_tupD, ix_lstD, ix_fzD, at_lit0, at_lit1, at_lit2, at_lit3, len_fz, len_lst, len_tup, List.map_cons, List.map_nil, List.length_cons, List.length_nil, List.getElem?_cons_zero, List.getElem?_cons_succ, List.set_cons_zero, List.set_cons_succ, List.cons_append, List.nil_append, List.replicate_succ, List.replicate_zero, Nat.reduceSub, Nat.reduceAdd, Nat.reduceLeDiff, if_true, if_false, Bool.false_eq_true, Bool.true_eq_false, Bool.not_true, Bool.not_false, Option.bind_some, Option.map_some, Nat.zero_add, ite_true, ite_false, Int.cast_ofNat_Int, Int.natCast_zero, Int.natCast_one, Int.reduceLT, Int.reduceLE, Int.reduceEq, Int.reduceAdd, Int.reduceSub, Int.reduceNeg, decide_true, decide_false, true_and, and_true, le_size, add_ll, add_tt, tuple_lst, tuple_tup, list_tup, list_lst, sl_tup, sl_lst, ii_non_int, ii_non_bool, ii_non_str, ii_non_tuple, ii_non_list, ii_non_dict, ii_bl_int, ii_bl_bool, ii_bl_str, ii_bl_tuple, ii_bl_list, ii_bl_dict, ii_int_int, ii_int_bool, ii_int_str, ii_int_tuple, ii_int_list, ii_int_dict, ii_str_int, ii_str_bool, ii_str_str, ii_str_tuple, ii_str_list, ii_str_dict, ii_tup_int, ii_tup_bool, ii_tup_str, ii_tup_tuple, ii_tup_list, ii_tup_dict, ii_lst_int, ii_lst_bool, ii_lst_str, ii_lst_tuple, ii_lst_list, ii_lst_dict, ii_fz_int, ii_fz_bool, ii_fz_str, ii_fz_tuple, ii_fz_list, ii_fz_dict, $ls,*])
  | `(tactic| simp_arith) => `(tactic| simp only [wps, w_C, w_Var, k_Var, w_Bin, k_Bin1, k_Bin2, w_Tst, k_B, w_Chain, k_Ch1, k_Ch2, k_Ch3t, k_Ch3f, k_Ch4, w_And, w_Or, w_Not, k_Andt, k_Andf, k_Ort, k_Orf, k_Not, w_bAnd, w_bOr, w_bNot, w_bYes, k_bAndt, k_bAndf, k_bOrt, k_bOrf, k_bNot, w_dIf, k_dIft, k_dIff, w_aNil, w_aCons, k_Cons1, k_Cons2, w_Tup, w_Lst, w_Cell, k_Tup, k_Lst, k_Cell, w_Call, k_Call, w_CallF, k_CallF, w_CallN, k_CallN, k_New, k_AddN1, w_Un, k_Un, w_Sl, k_Sl1, k_Sl2, k_Sl3, w_No, w_So, k_So, w_iSeq, k_Items, w_Range1, w_Range2, k_Rng1, k_Rng2, w_iEnum, k_Enum, w_Comp, k_Comp, k_AsL, w_TupRg, w_LstRg, k_TupRg, k_LstRg, w_Rev, k_Rev, rev_tup, rev_lst, k_Di1, k_PT1, k_PT2, w_Nil, w_Nop, w_Fl, w_Seq, k_Seqn, k_Seqr, k_Seqb, k_Seqc, w_Expr, k_Drop, w_Ret, k_Ret, w_Set, k_Set, w_Asg, k_Asg1, k_Nx, w_If, k_Ift, k_Iff, w_For, k_For, k_Put1, k_Put2, w_Fun, w_Fun0, k_Funn, k_Funr, w_newK, w_newT, asB_bl, gN, gTupD, gsCons, gsNil, wipeE, itemsOf, seqItems, len_str, add_ii, sub_ii, neg_i, lt_ii, le_ii, gt_ii, ge_ii, eq_ii, ne_ii, eq_ss, ne_ss, isnot_bb, is_bb, is_non, isnot_non, isNonD, ix_tupD, ix_lstD, ix_fzD, at_lit0, at_lit1, at_lit2, at_lit3, len_fz, len_lst, len_tup, List.map_cons, List.map_nil, List.length_cons, List.length_nil, List.getElem?_cons_zero, List.getElem?_cons_succ, List.set_cons_zero, List.set_cons_succ, List.cons_append, List.nil_append, List.replicate_succ, List.replicate_zero, Nat.reduceSub, Nat.reduceAdd, Nat.reduceLeDiff, if_true, if_false, Bool.false_eq_true, Bool.true_eq_false, Bool.not_true, Bool.not_false, Option.bind_some, Option.map_some, Nat.zero_add, ite_true, ite_false, Int.cast_ofNat_Int, Int.natCast_zero, Int.natCast_one, Int.reduceLT, Int.reduceLE, Int.reduceEq, Int.reduceAdd, Int.reduceSub, Int.reduceNeg, decide_true, decide_false, true_and, and_true, le_size, add_ll, add_tt, tuple_lst, tuple_tup, list_tup, list_lst, sl_tup, sl_lst, ii_non_int, ii_non_bool, ii_non_str, ii_non_tuple, ii_non_list, ii_non_dict, ii_bl_int, ii_bl_bool, ii_bl_str, ii_bl_tuple, ii_bl_list, ii_bl_dict, ii_int_int, ii_int_bool, ii_int_str, ii_int_tuple, ii_int_list, ii_int_dict, ii_str_int, ii_str_bool, ii_str_str, ii_str_tuple, ii_str_list, ii_str_dict, ii_tup_int, ii_tup_bool, ii_tup_str, ii_tup_tuple, ii_tup_list, ii_tup_dict, ii_lst_int, ii_lst_bool, ii_lst_str, ii_lst_tuple, ii_lst_list, ii_lst_dict, ii_fz_int, ii_fz_bool, ii_fz_str, ii_fz_tuple, ii_fz_list, ii_fz_dict])
  | `(tactic| simp_arith [$ls,*] $l:location) => `(tactic| simp only [wps, w_C, w_Var, k_Var, w_Bin, k_Bin1, k_Bin2, w_Tst, k_B, w_Chain, k_Ch1, k_Ch2, k_Ch3t, k_Ch3f, k_Ch4, w_And, w_Or, w_Not, k_Andt, k_Andf, k_Ort, k_Orf, k_Not, w_bAnd, w_bOr, w_bNot, w_bYes, k_bAndt, k_bAndf, k_bOrt, k_bOrf, k_bNot, w_dIf, k_dIft, k_dIff, w_aNil, w_aCons, k_Cons1, k_Cons2, w_Tup, w_Lst, w_Cell, k_Tup, k_Lst, k_Cell, w_Call, k_Call, w_CallF, k_CallF, w_CallN, k_CallN, k_New, k_AddN1, w_Un, k_Un, w_Sl, k_Sl1, k_Sl2, k_Sl3, w_No, w_So, k_So, w_iSeq, k_Items, w_Range1, w_Range2, k_Rng1, k_Rng2, w_iEnum, k_Enum, w_Comp, k_Comp, k_AsL, w_TupRg, w_LstRg, k_TupRg, k_LstRg, w_Rev, k_Rev, rev_tup, rev_lst, k_Di1, k_PT1, k_PT2, w_Nil, w_Nop, w_Fl, w_Seq, k_Seqn, k_Seqr, k_Seqb, k_Seqc, w_Expr, k_Drop, w_Ret, k_Ret, w_Set, k_Set, w_Asg, k_Asg1, k_Nx, w_If, k_Ift, k_Iff, w_For, k_For, k_Put1, k_Put2, w_Fun, w_Fun0, k_Funn, k_Funr, w_newK, w_newT, asB_bl, gN, gTupD, gsCons, gsNil, wipeE, itemsOf, seqItems, len_str, add_ii, sub_ii, neg_i, lt_ii, le_ii, gt_ii, ge_ii, eq_ii, ne_ii, eq_ss, ne_ss, isnot_bb, is_bb, is_non, isnot_non, isNonD, ix_tupD, ix_lstD, ix_fzD, at_lit0, at_lit1, at_lit2, at_lit3, len_fz, len_lst, len_tup, List.map_cons, List.map_nil, List.length_cons, List.length_nil, List.getElem?_cons_zero, List.getElem?_cons_succ, List.set_cons_zero, List.set_cons_succ, List.cons_append, List.nil_append, List.replicate_succ, List.replicate_zero, Nat.reduceSub, Nat.reduceAdd, Nat.reduceLeDiff, if_true, if_false, Bool.false_eq_true, Bool.true_eq_false, Bool.not_true, Bool.not_false, Option.bind_some, Option.map_some, Nat.zero_add, ite_true, ite_false, Int.cast_ofNat_Int, Int.natCast_zero, Int.natCast_one, Int.reduceLT, Int.reduceLE, Int.reduceEq, Int.reduceAdd, Int.reduceSub, Int.reduceNeg, decide_true, decide_false, true_and, and_true, le_size, add_ll, add_tt, tuple_lst, tuple_tup, list_tup, list_lst, sl_tup, sl_lst, ii_non_int, ii_non_bool, ii_non_str, ii_non_tuple, ii_non_list, ii_non_dict, ii_bl_int, ii_bl_bool, ii_bl_str, ii_bl_tuple, ii_bl_list, ii_bl_dict, ii_int_int, ii_int_bool, ii_int_str, ii_int_tuple, ii_int_list, ii_int_dict, ii_str_int, ii_str_bool, ii_str_str, ii_str_tuple, ii_str_list, ii_str_dict, ii_tup_int, ii_tup_bool, ii_tup_str, ii_tup_tuple, ii_tup_list, ii_tup_dict, ii_lst_int, ii_lst_bool, ii_lst_str, ii_lst_tuple, ii_lst_list, ii_lst_dict, ii_fz_int, ii_fz_bool, ii_fz_str, ii_fz_tuple, ii_fz_list, ii_fz_dict, $ls,*] $l:location)
  | `(tactic| simp_arith $l:location) => `(tactic| simp only [wps, w_C, w_Var, k_Var, w_Bin, k_Bin1, k_Bin2, w_Tst, k_B, w_Chain, k_Ch1, k_Ch2, k_Ch3t, k_Ch3f, k_Ch4, w_And, w_Or, w_Not, k_Andt, k_Andf, k_Ort, k_Orf, k_Not, w_bAnd, w_bOr, w_bNot, w_bYes, k_bAndt, k_bAndf, k_bOrt, k_bOrf, k_bNot, w_dIf, k_dIft, k_dIff, w_aNil, w_aCons, k_Cons1, k_Cons2, w_Tup, w_Lst, w_Cell, k_Tup, k_Lst, k_Cell, w_Call, k_Call, w_CallF, k_CallF, w_CallN, k_CallN, k_New, k_AddN1, w_Un, k_Un, w_Sl, k_Sl1, k_Sl2, k_Sl3, w_No, w_So, k_So, w_iSeq, k_Items, w_Range1, w_Range2, k_Rng1, k_Rng2, w_iEnum, k_Enum, w_Comp, k_Comp, k_AsL, w_TupRg, w_LstRg, k_TupRg, k_LstRg, w_Rev, k_Rev, rev_tup, rev_lst, k_Di1, k_PT1, k_PT2, w_Nil, w_Nop, w_Fl, w_Seq, k_Seqn, k_Seqr, k_Seqb, k_Seqc, w_Expr, k_Drop, w_Ret, k_Ret, w_Set, k_Set, w_Asg, k_Asg1, k_Nx, w_If, k_Ift, k_Iff, w_For, k_For, k_Put1, k_Put2, w_Fun, w_Fun0, k_Funn, k_Funr, w_newK, w_newT, asB_bl, gN, gTupD, gsCons, gsNil, wipeE, itemsOf, seqItems, len_str, add_ii, sub_ii, neg_i, lt_ii, le_ii, gt_ii, ge_ii, eq_ii, ne_ii, eq_ss, ne_ss, isnot_bb, is_bb, is_non, isnot_non, isNonD, ix_tupD, ix_lstD, ix_fzD, at_lit0, at_lit1, at_lit2, at_lit3, len_fz, len_lst, len_tup, List.map_cons, List.map_nil, List.length_cons, List.length_nil, List.getElem?_cons_zero, List.getElem?_cons_succ, List.set_cons_zero, List.set_cons_succ, List.cons_append, List.nil_append, List.replicate_succ, List.replicate_zero, Nat.reduceSub, Nat.reduceAdd, Nat.reduceLeDiff, if_true, if_false, Bool.false_eq_true, Bool.true_eq_false, Bool.not_true, Bool.not_false, Option.bind_some, Option.map_some, Nat.zero_add, ite_true, ite_false, Int.cast_ofNat_Int, Int.natCast_zero, Int.natCast_one, Int.reduceLT, Int.reduceLE, Int.reduceEq, Int.reduceAdd, Int.reduceSub, Int.reduceNeg, decide_true, decide_false, true_and, and_true, le_size, add_ll, add_tt, tuple_lst, tuple_tup, list_tup, list_lst, sl_tup, sl_lst, ii_non_int, ii_non_bool, ii_non_str, ii_non_tuple, ii_non_list, ii_non_dict, ii_bl_int, ii_bl_bool, ii_bl_str, ii_bl_tuple, ii_bl_list, ii_bl_dict, ii_int_int, ii_int_bool, ii_int_str, ii_int_tuple, ii_int_list, ii_int_dict, ii_str_int, ii_str_bool, ii_str_str, ii_str_tuple, ii_str_list, ii_str_dict, ii_tup_int, ii_tup_bool, ii_tup_str, ii_tup_tuple, ii_tup_list, ii_tup_dict, ii_lst_int, ii_lst_bool, ii_lst_str, ii_lst_tuple, ii_lst_list, ii_lst_dict, ii_fz_int, ii_fz_bool, ii_fz_str, ii_fz_tuple, ii_fz_list, ii_fz_dict] $l:location)
namespace G
/-! ### what is a loose house -/
def wholeB : D → Bool
  | .int _ => true
  | _ => false
def fromTo (a b : Int) : D → Bool
  | .int i => decide (a ≤ i) && decide (i ≤ b)
  | _ => false
def LETS : Str := "abcdefghijklmnopqrstuvwxyz"
def wordB : D → Bool
  | .str x => decide (1 ≤ x.length) && decide (x.length ≤ 8) && x.cps.toList.all fun c => decide (c ∈ LETS.cps.toList)
  | _ => false
theorem whole_wp {d : D} {S : Sto} {P : D → Sto → Prop} (h : typedD S d = true) (k : P (.bl (wholeB d)) S) : Wp (f_is_whole [d] S) P := by
  unfold f_is_whole d_is_whole
  cases d with
  | ref n => simp_arith [ir_int h]; exact k
  | ty n => cases h
  | _ => simp_arith; exact k
theorem from_wp {d : D} {a b : Int} {S : Sto} {P : D → Sto → Prop} (h : typedD S d = true) (k : P (.bl (fromTo a b d)) S) : Wp (f_is_from_to [d, .int a, .int b] S) P := by
  unfold f_is_from_to d_is_from_to
  simp_arith
  refine whole_wp h ?_
  cases d with
  | int i =>
    simp_arith [wholeB]
    by_cases h1 : a ≤ i
    · simp_arith [decide_eq_true h1]
      unfold fromTo at k
      dsimp only at k
      rw [decide_eq_true h1, Bool.true_and] at k
      exact k
    · simp_arith [decide_eq_false h1]
      unfold fromTo at k
      dsimp only at k
      rw [decide_eq_false h1, Bool.false_and] at k
      exact k
  | ty n => cases h
  | _ => simp_arith [wholeB]; exact k
theorem word_wp {d : D} {S : Sto} {P : D → Sto → Prop} (h : typedD S d = true) (hx : ∀ x, d = .str x → x.length ≤ 1000) (k : P (.bl (wordB d)) S) : Wp (f_is_word [d] S) P := by
  unfold f_is_word d_is_word
  cases d with
  | str x =>
    have hl := hx x rfl
    have hz : x.length ≤ sizeLine := by have e := sizeLine_eq; omega
    simp_arith [len_str hz]
    unfold wordB at k
    dsimp only at k
    by_cases h1 : (1 : Int) ≤ (x.length : Int)
    · by_cases h2 : (x.length : Int) ≤ 8
      · simp_arith [decide_eq_true h1, decide_eq_true h2]
        refine compGo_pure (fun d => match d with | .str y => .bl (match signOf y with | some c => decide (c ∈ LETS.cps.toList) | none => false) | d => d) ?_ (fun d hd => ?_) ?_
        · unfold signs
          rw [List.length_map]
          exact hz
        · unfold signs at hd
          obtain ⟨c, hc, e⟩ := List.mem_map.mp hd
          subst e
          refine ⟨_, rfl, ?_⟩
          have e1 : oIn false S (.str ⟨#[c]⟩) (.str "abcdefghijklmnopqrstuvwxyz") = some (.bl (decide (c ∈ LETS.cps.toList))) := by
            refine (orO_none rfl).trans ((orO_none rfl).trans ?_)
            show some (D.bl (false ^^ decide (c ∈ LETS.cps.toList))) = _
            rw [Bool.false_xor]
          simp_arith [e1]
          rfl
        · have e2 : (signs x).map (fun d => match d with | .str y => .bl (match signOf y with | some c => decide (c ∈ LETS.cps.toList) | none => false) | d => d) = x.cps.toList.map fun c => D.bl (decide (c ∈ LETS.cps.toList)) := by
            unfold signs
            rw [List.map_map]
            rfl
          rw [e2]
          simp_arith [all_lst]
          rw [decide_eq_true (show 1 ≤ x.length by omega), decide_eq_true (show x.length ≤ 8 by omega)] at k
          exact k
      · simp_arith [decide_eq_true h1, decide_eq_false h2]
        rw [decide_eq_false (show ¬ x.length ≤ 8 by omega), Bool.and_false, Bool.false_and] at k
        exact k
    · simp_arith [decide_eq_false h1]
      rw [decide_eq_false (show ¬ 1 ≤ x.length by omega), Bool.false_and, Bool.false_and] at k
      exact k
  | ref n => simp_arith [ir_str h]; exact k
  | ty n => cases h
  | _ => simp_arith; exact k
mutual
/-- texts in a thing are short -/
def shortD : D → Bool
  | .str x => decide (x.length ≤ 1000)
  | .tup ds => shortL ds
  | .lst ds => shortL ds
  | .fz ds => shortL ds
  | _ => true
def shortL : List D → Bool
  | [] => true
  | d :: ds => shortD d && shortL ds
end
theorem short_mem : ∀ {ds : List D} {d : D}, shortL ds = true → d ∈ ds → shortD d = true
  | [], _, _, h => by cases h
  | x :: xs, d, h, hm => by
    unfold shortL at h
    rw [Bool.and_eq_true] at h
    rcases List.mem_cons.mp hm with e | e
    · rw [e]; exact h.1
    · exact short_mem h.2 e
def okD (S : Sto) (d : D) : Prop := typedD S d = true ∧ shortD d = true
theorem okD.mem {S : Sto} {ds : List D} (h : okD S (.tup ds)) {d : D} (hd : d ∈ ds) : okD S d := ⟨typed_mem (show typedL S ds = true from h.1) hd, short_mem (show shortL ds = true from h.2) hd⟩
theorem from_wp' {d : D} {a b : Int} {S : Sto} {P : D → Sto → Prop} (h : okD S d) (k : P (.bl (fromTo a b d)) S) : Wp (f_is_from_to [d, .int a, .int b] S) P := from_wp h.1 k
theorem word_wp' {d : D} {S : Sto} {P : D → Sto → Prop} (h : okD S d) (k : P (.bl (wordB d)) S) : Wp (f_is_word [d] S) P := word_wp h.1 (fun x e => by subst e; exact of_decide_eq_true h.2) k

/-! ### what has the form of a house -/
def MD : List Str := ["both", "come", "go"]
def memberB (walls last : Int) : D → Bool
  | .tup [w, .str m] => fromTo (last + 1) (walls - 1) w && decide (m ∈ MD)
  | _ => false
def numOf : D → Int
  | .tup (.int i :: _) => i
  | _ => 0
def membersGo (walls : Int) : Int → List D → Bool
  | _, [] => true
  | last, d :: ds => memberB walls last d && membersGo walls (numOf d) ds
def membersB (walls : Int) : D → Bool
  | .tup ds => membersGo walls (-1) ds
  | _ => false
def hthreeB (boxes walls scripts at' : Int) (w : Str) (a c : D) : Bool :=
  if w = "raise" then fromTo 0 (boxes - 1) a && fromTo 1 99 c
  else if w = "await" then fromTo 0 (boxes - 1) a && fromTo 1 9999 c
  else decide (w = "begin") && (fromTo (at' + 1) (scripts - 1) a && membersB walls c)
def htwoB (walls : Int) (w : Str) (a : D) : Bool :=
  if w = "work" then fromTo 0 999 a
  else if w = "say" then wordB a
  else decide (w ∈ (["come", "go", "leave"] : List Str)) && fromTo 0 (walls - 1) a
def hdeedB (boxes walls scripts at' : Int) : D → Bool
  | .tup [.str w, a, c] => hthreeB boxes walls scripts at' w a c
  | .tup [.str w, a] => htwoB walls w a
  | _ => false
def callingB (walls scripts : Int) : D → Bool
  | .tup [a, ms] => fromTo 0 (scripts - 1) a && membersB walls ms
  | _ => false
def hscriptB (boxes walls scripts at' : Int) : D → Bool
  | .tup ds => decide (ds.length ≤ 80) && ds.all (hdeedB boxes walls scripts at')
  | _ => false
def hscriptsB (boxes walls scripts : Int) : Nat → List D → Bool
  | _, [] => true
  | k, d :: ds => hscriptB boxes walls scripts k d && hscriptsB boxes walls scripts (k + 1) ds
def preB : D → Bool
  | .tup [.int b, .int w, .tup fs, .tup ss] => decide (0 ≤ b) && decide (b ≤ 99) && (decide (0 ≤ w) && decide (w ≤ 6)) && (decide (1 ≤ fs.length) && decide (fs.length ≤ 40)) && (decide (1 ≤ ss.length) && decide (ss.length ≤ 20)) && hscriptsB b w ss.length 0 ss && fs.all (callingB w ss.length)
  | _ => false
section
variable {S : Sto} {P : D → Sto → Prop}
theorem not_int_ft {a b : Int} {d : D} (h : ∀ i, d ≠ .int i) : fromTo a b d = false := by
  cases d <;> first | rfl | exact absurd rfl (h _)
theorem members_wp {walls : Int} {d : D} (h : okD S d) (k : P (.bl (membersB walls d)) S) : Wp (f_is_members [.int walls, d] S) P := by
  unfold f_is_members d_is_members
  by_cases ht : isTupD d = true
  case neg =>
    have e0 : membersB walls d = false := by
      cases d with
      | tup ds => exact absurd rfl ht
      | _ => rfl
    rw [e0] at k
    have i := it_tuple h.1
    rw [Bool.eq_false_iff.mpr ht] at i
    simp_arith [i]
    exact k
  cases d with
  | tup ds =>
    simp_arith
    refine forGo_wp (fun rest env T => ∃ (last : Int) (e3 : Option D), env = [some (.int walls), some (.tup ds), some (.int last), e3] ∧ T = S ∧ (∀ x ∈ rest, okD S x) ∧ membersGo walls (-1) ds = membersGo walls last rest) _ _ _
      ⟨-1, none, rfl, rfl, fun x hx => h.mem hx, rfl⟩ (fun x rest env T hI => ?_) fun env T hI => ?_
    · obtain ⟨last, e3, e, eT, hr, hm⟩ := hI
      subst e eT
      have hx := hr x List.mem_cons_self
      refine ⟨_, rfl, ?_⟩
      have hm2 : membersGo walls last (x :: rest) = (memberB walls last x && membersGo walls (numOf x) rest) := rfl
      rw [hm2] at hm
      have bad : memberB walls last x = false → P (.bl false) T := fun q => by
        have e1 : membersB walls (.tup ds) = false := by
          show membersGo walls (-1) ds = false
          rw [hm, q, Bool.false_and]
        rw [e1] at k
        exact k
      by_cases htx : isTupD x = true
      case neg =>
        have i := it_tuple hx.1
        rw [Bool.eq_false_iff.mpr htx] at i
        simp_arith [i]
        refine bad ?_
        cases x with
        | tup ds => exact absurd rfl htx
        | _ => rfl
      cases x with
      | tup xs =>
        match xs, hx, hm, bad with
        | [], hx, hm, bad => simp_arith; exact bad rfl
        | [a], hx, hm, bad => simp_arith; refine bad ?_; cases a <;> rfl
        | a :: b :: c :: r, hx, hm, bad =>
          simp_arith [decide_eq_false (show ¬ ((r.length + 1 + 1 + 1 : Nat) : Int) = 2 by omega)]
          refine bad ?_
          cases b <;> rfl
        | [a, b], hx, hm, bad =>
          have ha := hx.mem (d := a) List.mem_cons_self
          have hb := hx.mem (d := b) (List.mem_cons_of_mem _ List.mem_cons_self)
          simp_arith
          refine from_wp' ha ?_
          cases hf : fromTo (last + 1) (walls - 1) a with
          | false =>
            simp_arith
            refine bad ?_
            cases b with
            | str m => show (fromTo (last + 1) (walls - 1) a && _) = false; rw [hf, Bool.false_and]
            | _ => rfl
          | true =>
            by_cases hs : isStrD b = true
            case neg =>
              have i := it_str hb.1
              rw [Bool.eq_false_iff.mpr hs] at i
              simp_arith [i]
              refine bad ?_
              cases b with
              | str m => exact absurd rfl hs
              | _ => rfl
            cases b with
            | str m =>
              simp_arith
              refine w_InG ?_
              simp_arith [k_InG, Bool.true_xor]
              have em : memberB walls last (.tup [a, .str m]) = decide (m ∈ MD) := by
                show (fromTo (last + 1) (walls - 1) a && decide (m ∈ MD)) = _
                rw [hf, Bool.true_and]
              refine k_Ifn (fun c => ?_) fun c => ?_
              · simp_arith
                refine bad ?_
                rw [em]
                exact decide_eq_false c
              · simp_arith
                rw [em, decide_eq_true (show m ∈ MD from c), Bool.true_and] at hm
                cases a with
                | int i => exact ⟨_, _, rfl, fun y hy => hr y (List.mem_cons_of_mem _ hy), hm⟩
                | _ => cases hf
            | _ => cases hs
      | _ => cases htx
    · obtain ⟨last, e3, e, eT, hr, hm⟩ := hI
      subst e eT
      have e1 : membersB walls (.tup ds) = true := by
        show membersGo walls (-1) ds = true
        rw [hm]
        rfl
      rw [e1] at k
      simp_arith
      exact k
  | _ => cases ht
theorem flDL_strs : ∀ ns : List Str, flDL (ns.map D.str) = some (ns.map V.str)
  | [] => rfl
  | n :: ns => by
    rw [List.map_cons]
    unfold flDL
    rw [flDL_strs ns]
    rfl
theorem in_strs {S : Sto} {w : Str} {ns : List Str} (neg : Bool) : oIn neg S (.str w) (.tup (ns.map D.str)) = some (.bl (neg ^^ decide (w ∈ ns))) := by
  refine orO_some ?_
  show (flDL (ns.map D.str)).map _ = _
  rw [flDL_strs, Option.map_some, inV_strs]
  cases neg <;> simp
theorem in_come {T : Sto} (w : Str) : oIn false T (.str w) (.tup [.str "come", .str "go", .str "leave"]) = some (.bl (decide (w ∈ (["come", "go", "leave"] : List Str)))) :=
  (in_strs (ns := ["come", "go", "leave"]) false).trans (by rw [Bool.false_xor])
theorem hdeed_wp {b w n a' : Int} {d : D} (h : okD S d) (k : P (.bl (hdeedB b w n a' d)) S) : Wp (f_is_deed [.int b, .int w, .int n, .int a', d] S) P := by
  unfold f_is_deed d_is_deed
  by_cases ht : isTupD d = true
  case neg =>
    have e0 : hdeedB b w n a' d = false := by
      cases d with
      | tup ds => exact absurd rfl ht
      | _ => rfl
    rw [e0] at k
    have i := it_tuple h.1
    rw [Bool.eq_false_iff.mpr ht] at i
    simp_arith [i]
    exact k
  cases d with
  | tup ds =>
    match ds, h, k with
    | [], h, k => simp_arith; exact k
    | [x], h, k => simp_arith; cases x <;> exact k
    | s :: x :: r, h, k =>
      have hw := h.mem (d := s) List.mem_cons_self
      have hx := h.mem (d := x) (List.mem_cons_of_mem _ List.mem_cons_self)
      have hlen : ¬ ((r.length + 1 + 1 : Nat) : Int) < 2 := by omega
      by_cases hs : isStrD s = true
      case neg =>
        have e0 : hdeedB b w n a' (.tup (s :: x :: r)) = false := by
          cases s with
          | str ds => exact absurd rfl hs
          | _ => match r with
            | [] => rfl
            | [c] => rfl
            | _ :: _ :: _ => rfl
        rw [e0] at k
        have i := it_str hw.1
        rw [Bool.eq_false_iff.mpr hs] at i
        simp_arith [decide_eq_false hlen, i]
        exact k
      cases s with
      | str s =>
        simp_arith [decide_eq_false hlen]
        match r, h, k, hlen with
        | [], h, k, hlen =>
          have e0 : hdeedB b w n a' (.tup [.str s, x]) = htwoB w s x := rfl
          rw [e0] at k
          unfold htwoB at k
          simp_arith
          by_cases h1 : s = "work"
          · rw [if_pos h1] at k
            simp_arith [decide_eq_true h1]
            refine from_wp' hx ?_
            simp_arith
            exact k
          rw [if_neg h1] at k
          simp_arith [decide_eq_false h1]
          by_cases h2 : s = "say"
          · rw [if_pos h2] at k
            simp_arith [decide_eq_true h2]
            refine word_wp' hx ?_
            simp_arith
            exact k
          rw [if_neg h2] at k
          simp_arith [decide_eq_false h2, in_come]
          by_cases h3 : s ∈ (["come", "go", "leave"] : List Str)
          · rw [decide_eq_true h3, Bool.true_and] at k
            simp_arith [decide_eq_true h3]
            refine from_wp' hx ?_
            simp_arith
            exact k
          · rw [decide_eq_false h3, Bool.false_and] at k
            simp_arith [decide_eq_false h3]
            exact k
        | [c], h, k, hlen =>
          have hc := h.mem (d := c) (by simp)
          have e0 : hdeedB b w n a' (.tup [.str s, x, c]) = hthreeB b w n a' s x c := rfl
          rw [e0] at k
          unfold hthreeB at k
          simp_arith
          by_cases h1 : s = "raise"
          · rw [if_pos h1] at k
            simp_arith [decide_eq_true h1]
            refine from_wp' hx ?_
            cases hf : fromTo 0 (b - 1) x with
            | false => rw [hf, Bool.false_and] at k; simp_arith; exact k
            | true =>
              rw [hf, Bool.true_and] at k
              simp_arith
              refine from_wp' hc ?_
              simp_arith
              exact k
          rw [if_neg h1] at k
          simp_arith [decide_eq_false h1]
          by_cases h2 : s = "await"
          · rw [if_pos h2] at k
            simp_arith [decide_eq_true h2]
            refine from_wp' hx ?_
            cases hf : fromTo 0 (b - 1) x with
            | false => rw [hf, Bool.false_and] at k; simp_arith; exact k
            | true =>
              rw [hf, Bool.true_and] at k
              simp_arith
              refine from_wp' hc ?_
              simp_arith
              exact k
          rw [if_neg h2] at k
          simp_arith [decide_eq_false h2]
          by_cases h3 : s = "begin"
          · rw [decide_eq_true h3, Bool.true_and] at k
            simp_arith [decide_eq_true h3]
            refine from_wp' hx ?_
            cases hf : fromTo (a' + 1) (n - 1) x with
            | false => rw [hf, Bool.false_and] at k; simp_arith; exact k
            | true =>
              rw [hf, Bool.true_and] at k
              simp_arith
              refine members_wp hc ?_
              simp_arith
              exact k
          · rw [decide_eq_false h3, Bool.false_and] at k
            simp_arith [decide_eq_false h3]
            exact k
        | c :: f :: r2, h, k, hlen =>
          have e0 : hdeedB b w n a' (.tup (.str s :: x :: c :: f :: r2)) = false := rfl
          rw [e0] at k
          simp_arith [decide_eq_false (show ¬ ((r2.length + 1 + 1 + 1 + 1 : Nat) : Int) = 3 by omega), decide_eq_false (show ¬ ((r2.length + 1 + 1 + 1 + 1 : Nat) : Int) = 2 by omega)]
          exact k
      | _ => cases hs
  | _ => cases ht
theorem calling_wp {w n : Int} {d : D} (h : okD S d) (k : P (.bl (callingB w n d)) S) : Wp (f_is_calling [.int w, .int n, d] S) P := by
  unfold f_is_calling d_is_calling
  by_cases ht : isTupD d = true
  case neg =>
    have e0 : callingB w n d = false := by
      cases d with
      | tup ds => exact absurd rfl ht
      | _ => rfl
    rw [e0] at k
    have i := it_tuple h.1
    rw [Bool.eq_false_iff.mpr ht] at i
    simp_arith [i]
    exact k
  cases d with
  | tup ds =>
    match ds, h, k with
    | [], h, k => simp_arith; exact k
    | [x], h, k => simp_arith; exact k
    | x :: y :: z :: r, h, k =>
      have e0 : callingB w n (.tup (x :: y :: z :: r)) = false := rfl
      rw [e0] at k
      simp_arith [decide_eq_false (show ¬ ((r.length + 1 + 1 + 1 : Nat) : Int) = 2 by omega)]
      exact k
    | [x, y], h, k =>
      have e0 : callingB w n (.tup [x, y]) = (fromTo 0 (n - 1) x && membersB w y) := rfl
      rw [e0] at k
      simp_arith
      refine from_wp' (h.mem (by simp)) ?_
      cases hf : fromTo 0 (n - 1) x with
      | false => rw [hf, Bool.false_and] at k; simp_arith; exact k
      | true =>
        rw [hf, Bool.true_and] at k
        simp_arith
        refine members_wp (h.mem (by simp)) ?_
        simp_arith
        exact k
  | _ => cases ht
theorem hscript_wp {b w n a' : Int} {d : D} (h : okD S d) (k : P (.bl (hscriptB b w n a' d)) S) : Wp (f_is_script [.int b, .int w, .int n, .int a', d] S) P := by
  unfold f_is_script d_is_script
  by_cases ht : isTupD d = true
  case neg =>
    have e0 : hscriptB b w n a' d = false := by
      cases d with
      | tup ds => exact absurd rfl ht
      | _ => rfl
    rw [e0] at k
    have i := it_tuple h.1
    rw [Bool.eq_false_iff.mpr ht] at i
    simp_arith [i]
    exact k
  cases d with
  | tup ds =>
    simp_arith
    unfold hscriptB at k
    dsimp only at k
    refine k_Ifd (fun h1 => ?_) fun h1 => ?_
    · rw [decide_eq_false (show ¬ ds.length ≤ 80 by omega), Bool.false_and] at k
      simp_arith
      exact k
    · rw [decide_eq_true (show ds.length ≤ 80 by omega), Bool.true_and] at k
      simp_arith
      refine compGo_pure (fun d => .bl (hdeedB b w n a' d)) (by rw [sizeLine_eq]; omega) (fun x hx => ?_) ?_
      · refine ⟨_, rfl, ?_⟩
        simp_arith
        refine hdeed_wp (h.mem hx) ?_
        simp_arith
      · simp_arith [all_lst]
        exact k
  | _ => cases ht
/-- a house, but for its callings -/
theorem ishouse_wp {d : D} (h : okD S d) (k : preB d = false → P (.bl false) S) (k2 : ∀ b w fs ss, d = .tup [.int b, .int w, .tup fs, .tup ss] → preB d = true → Wp (f_are_called_well [.tup fs, .tup ss] S) P) : Wp (f_is_house [d] S) P := by
  unfold f_is_house d_is_house
  by_cases ht : isTupD d = true
  case neg =>
    have e0 : preB d = false := by
      cases d with
      | tup ds => exact absurd rfl ht
      | _ => rfl
    have i := it_tuple h.1
    rw [Bool.eq_false_iff.mpr ht] at i
    simp_arith [i]
    exact k e0
  cases d with
  | tup ds =>
    by_cases hl : ds.length = 4
    case neg =>
      have e0 : preB (.tup ds) = false := by
        match ds, hl with
        | [], _ => rfl
        | [a], _ => cases a <;> rfl
        | [a, b], _ => cases a <;> first | rfl | (cases b <;> rfl)
        | [a, b, c], _ => cases a <;> first | rfl | (cases b <;> first | rfl | (cases c <;> rfl))
        | [_, _, _, _], hl => exact absurd rfl hl
        | a :: b :: c :: d :: _ :: _, _ => cases a <;> first | rfl | (cases b <;> first | rfl | (cases c <;> first | rfl | (cases d <;> rfl)))
      simp_arith [decide_eq_false (show ¬ ((ds.length : Nat) : Int) = 4 by omega)]
      exact k e0
    match ds, hl, h, k, k2 with
    | [b, w, fs, ss], hl, h, k, k2 =>
    have hb := h.mem (d := b) (by simp)
    have hw := h.mem (d := w) (by simp)
    have hfs := h.mem (d := fs) (by simp)
    have hss := h.mem (d := ss) (by simp)
    simp_arith
    refine from_wp' hb ?_
    cases hf : fromTo 0 99 b with
    | false =>
      simp_arith
      refine k ?_
      cases b with
      | int b =>
        have hf' : (decide (0 ≤ b) && decide (b ≤ 99)) = false := hf
        cases w <;> first | rfl | (cases fs <;> first | rfl | (cases ss <;> first | rfl | (unfold preB; dsimp only; rw [hf']; simp only [Bool.false_and])))
      | _ => rfl
    | true =>
      cases b with
      | int b =>
        have hf' : (decide (0 ≤ b) && decide (b ≤ 99)) = true := hf
        simp_arith
        refine from_wp' hw ?_
        cases hg : fromTo 0 6 w with
        | false =>
          simp_arith
          refine k ?_
          cases w with
          | int w =>
            have hg' : (decide (0 ≤ w) && decide (w ≤ 6)) = false := hg
            cases fs <;> first | rfl | (cases ss <;> first | rfl | (unfold preB; dsimp only; rw [hg']; simp only [Bool.false_and, Bool.and_false]))
          | _ => rfl
        | true =>
          cases w with
          | int w =>
            have hg' : (decide (0 ≤ w) && decide (w ≤ 6)) = true := hg
            by_cases hft : isTupD fs = true
            case neg =>
              have i := it_tuple hfs.1
              rw [Bool.eq_false_iff.mpr hft] at i
              simp_arith [i]
              refine k ?_
              cases fs with
              | tup ds => exact absurd rfl hft
              | _ => rfl
            cases fs with
            | tup fs =>
              simp_arith
              have pre1 : ∀ ss', ¬ (1 ≤ fs.length ∧ fs.length ≤ 40) → preB (.tup [.int b, .int w, .tup fs, ss']) = false := fun ss' q => by
                cases ss' with
                | tup ss =>
                  unfold preB
                  dsimp only
                  have e : (decide (1 ≤ fs.length) && decide (fs.length ≤ 40)) = false := by
                    rw [Bool.and_eq_false_iff, decide_eq_false_iff_not, decide_eq_false_iff_not]
                    omega
                  rw [e]
                  simp only [Bool.false_and, Bool.and_false]
                | _ => rfl
              refine k_Ch3d (fun f1 => ?_) fun f1 => ?_
              · simp_arith
                refine k_Ifn (fun f2 => ?_) fun f2 => ?_
                · simp_arith
                  exact k (pre1 _ (by omega))
                · have e1 : (decide (1 ≤ fs.length) && decide (fs.length ≤ 40)) = true := by rw [decide_eq_true (show 1 ≤ fs.length by omega), decide_eq_true (show fs.length ≤ 40 by omega)]; rfl
                  by_cases hst : isTupD ss = true
                  case neg =>
                    have i := it_tuple hss.1
                    rw [Bool.eq_false_iff.mpr hst] at i
                    simp_arith [i]
                    refine k ?_
                    cases ss with
                    | tup ds => exact absurd rfl hst
                    | _ => rfl
                  cases ss with
                  | tup ss =>
                    simp_arith
                    have pre2 : ¬ (1 ≤ ss.length ∧ ss.length ≤ 20) → preB (.tup [.int b, .int w, .tup fs, .tup ss]) = false := fun q => by
                      unfold preB
                      dsimp only
                      have e : (decide (1 ≤ ss.length) && decide (ss.length ≤ 20)) = false := by
                        rw [Bool.and_eq_false_iff, decide_eq_false_iff_not, decide_eq_false_iff_not]
                        omega
                      rw [e]
                      simp only [Bool.false_and, Bool.and_false]
                    refine k_Ch3d (fun g1 => ?_) fun g1 => ?_
                    · simp_arith
                      refine k_Ifn (fun g2 => ?_) fun g2 => ?_
                      · simp_arith
                        exact k (pre2 (by omega))
                      · have e2 : (decide (1 ≤ ss.length) && decide (ss.length ≤ 20)) = true := by rw [decide_eq_true (show 1 ≤ ss.length by omega), decide_eq_true (show ss.length ≤ 20 by omega)]; rfl
                        have epre : preB (.tup [.int b, .int w, .tup fs, .tup ss]) = (hscriptsB b w ss.length 0 ss && fs.all (callingB w ss.length)) := by
                          unfold preB
                          dsimp only
                          rw [hf', hg', e1, e2]
                          simp only [Bool.true_and]
                        simp_arith
                        refine forGo_wp (fun rest env T => ∃ (i : Nat) (l : List D) (e6 e7 : Option D), rest = enumL i l ∧ env = [some (.tup [.int b, .int w, .tup fs, .tup ss]), some (.int b), some (.int w), some (.tup fs), some (.tup ss), some (.int (ss.length : Int)), e6, e7, none] ∧ T = S ∧ (∀ x ∈ l, okD S x) ∧ hscriptsB b w ss.length 0 ss = hscriptsB b w ss.length i l) _ _ _
                          ⟨0, ss, none, none, rfl, rfl, rfl, fun x hx => hss.mem hx, rfl⟩ (fun x rest env T hI => ?_) fun env T hI => ?_
                        · obtain ⟨i, l, e6, e7, er, e, eT, hr, hm⟩ := hI
                          cases l with
                          | nil => cases er
                          | cons y l =>
                            obtain ⟨ex, er2⟩ := List.cons.inj (show x :: rest = D.tup [.int (i : Int), y] :: enumL (i + 1) l from er)
                            subst e eT ex
                            refine ⟨_, rfl, ?_⟩
                            simp_arith
                            refine hscript_wp (hr y List.mem_cons_self) ?_
                            have hm2 : hscriptsB b w ss.length i (y :: l) = (hscriptB b w ss.length i y && hscriptsB b w ss.length (i + 1) l) := rfl
                            rw [hm2] at hm
                            cases hsb : hscriptB b w ss.length i y with
                            | false =>
                              simp_arith
                              refine k ?_
                              rw [epre, hm, hsb, Bool.false_and, Bool.false_and]
                            | true =>
                              rw [hsb, Bool.true_and] at hm
                              simp_arith
                              exact ⟨i + 1, l, _, _, er2, rfl, fun z hz => hr z (List.mem_cons_of_mem _ hz), hm⟩
                        · obtain ⟨i, l, e6, e7, er, e, eT, hr, hm⟩ := hI
                          cases l with
                          | cons y l => cases er
                          | nil =>
                            subst e eT
                            have hm1 : hscriptsB b w ss.length 0 ss = true := hm
                            rw [hm1, Bool.true_and] at epre
                            simp_arith
                            refine compGo_pure (fun d => .bl (callingB w ss.length d)) (by rw [sizeLine_eq]; omega) (fun x hx => ?_) ?_
                            · refine ⟨_, rfl, ?_⟩
                              simp_arith
                              refine calling_wp (hfs.mem hx) ?_
                              simp_arith
                            · simp_arith [all_lst]
                              cases hc : fs.all (callingB w ss.length) with
                              | false =>
                                simp_arith
                                exact k (epre.trans hc)
                              | true =>
                                simp_arith
                                refine (k2 b w fs ss rfl (epre.trans hc)).mono fun d T q => ?_
                                simp_arith
                                exact q
                    · simp_arith
                      exact k (pre2 (by omega))
                  | _ => cases hst
              · simp_arith
                exact k (pre1 _ (by omega))
            | _ => cases hft
          | _ => cases hg
      | _ => cases hf
  | _ => cases ht
end

end G
end DL
end L2

set_option Elab.async false
set_option linter.all false
set_option maxRecDepth 100000
namespace L2
namespace DL
open PySem PySem.Spec PyProof.Rows
local macro_rules
  | `(tactic| simp_arith [$ls,*]) => `(tactic| simp only [wps, w_C, w_Var, k_Var, w_Bin, k_Bin1, k_Bin2, w_Tst, k_B, w_Chain, k_Ch1, k_Ch2, k_Ch3t, k_Ch3f, k_Ch4, w_And, w_Or, w_Not, k_Andt, k_Andf, k_Ort, k_Orf, k_Not, w_bAnd, w_bOr, w_bNot, w_bYes, k_bAndt, k_bAndf, k_bOrt, k_bOrf, k_bNot, w_dIf, k_dIft, k_dIff, w_aNil, w_aCons, k_Cons1, k_Cons2, w_Tup, w_Lst, w_Cell, k_Tup, k_Lst, k_Cell, w_Call, k_Call, w_CallF, k_CallF, w_CallN, k_CallN, k_New, k_AddN1, w_Un, k_Un, w_Sl, k_Sl1, k_Sl2, k_Sl3, w_No, w_So, k_So, w_iSeq, k_Items, w_Range1, w_Range2, k_Rng1, k_Rng2, w_iEnum, k_Enum, w_Comp, k_Comp, k_AsL, w_TupRg, w_LstRg, k_TupRg, k_LstRg, w_Rev, k_Rev, rev_tup, rev_lst, k_Di1, k_PT1, k_PT2, w_Nil, w_Nop, w_Fl, w_Seq, k_Seqn, k_Seqr, k_Seqb, k_Seqc, w_Expr, k_Drop, w_Ret, k_Ret, w_Set, k_Set, w_Asg, k_Asg1, k_Nx, w_If, k_Ift, k_Iff, w_For, k_For, k_Put1, k_Put2, w_Fun, w_Fun0, k_Funn, k_Funr, w_newK, w_newT, asB_bl, gN, gTupD, gsCons, gsNil, wipeE, itemsOf, seqItems, len_str, add_ii, sub_ii, neg_i, lt_ii, le_ii, gt_ii, ge_ii, eq_ii, ne_ii, eq_ss, ne_ss, isnot_bb, is_bb, is_non, isnot_non, isNonD, ix_tupD, ix_lstD, ix_fzD, at_lit0, at_lit1, at_lit2, at_lit3, len_fz, len_lst, len_tup, List.map_cons, List.map_nil, List.length_cons, List.length_nil, List.getElem?_cons_zero, List.getElem?_cons_succ, List.set_cons_zero, List.set_cons_succ, List.cons_append, List.nil_append, List.replicate_succ, List.replicate_zero, Nat.reduceSub, Nat.reduceAdd, Nat.reduceLeDiff, if_true, if_false, Bool.false_eq_true, Bool.true_eq_false, Bool.not_true, Bool.not_false, Option.bind_some, Option.map_some, Nat.zero_add, ite_true, ite_false, Int.cast_ofNat_Int, Int.natCast_zero, Int.natCast_one, Int.reduceLT, Int.reduceLE, Int.reduceEq, Int.reduceAdd, Int.reduceSub, Int.reduceNeg, decide_true, decide_false, true_and, and_true, le_size, add_ll, add_tt, tuple_lst, tuple_tup, list_tup, list_lst, sl_tup, sl_lst, ii_non_int, ii_non_bool, ii_non_str, ii_non_tuple, ii_non_list, ii_non_dict, ii_bl_int, ii_bl_bool, ii_bl_str, ii_bl_tuple, ii_bl_list, ii_bl_dict, ii_int_int, ii_int_bool, ii_int_str, ii_int_tuple, ii_int_list, ii_int_dict, ii_str_int, ii_str_bool, ii_str_str, ii_str_tuple, ii_str_list, ii_str_dict, ii_tup_int, ii_tup_bool, ii_tup_str, ii_tup_tuple, ii_tup_list, ii_tup_dict, ii_lst_int, ii_lst_bool, ii_lst_str, ii_lst_tuple, ii_lst_list, ii_lst_dict, ii_fz_int, ii_fz_bool, ii_fz_str, ii_fz_tuple, ii_fz_list, ii_fz_dict, $ls,*])
  | `(tactic| simp_arith) => `(tactic| simp only [wps, w_C, w_Var, k_Var, w_Bin, k_Bin1, k_Bin2, w_Tst, k_B, w_Chain, k_Ch1, k_Ch2, k_Ch3t, k_Ch3f, k_Ch4, w_And, w_Or, w_Not, k_Andt, k_Andf, k_Ort, k_Orf, k_Not, w_bAnd, w_bOr, w_bNot, w_bYes, k_bAndt, k_bAndf, k_bOrt, k_bOrf, k_bNot, w_dIf, k_dIft, k_dIff, w_aNil, w_aCons, k_Cons1, k_Cons2, w_Tup, w_Lst, w_Cell, k_Tup, k_Lst, k_Cell, w_Call, k_Call, w_CallF, k_CallF, w_CallN, k_CallN, k_New, k_AddN1, w_Un, k_Un, w_Sl, k_Sl1, k_Sl2, k_Sl3, w_No, w_So, k_So, w_iSeq, k_Items, w_Range1, w_Range2, k_Rng1, k_Rng2, w_iEnum, k_Enum, w_Comp, k_Comp, k_AsL, w_TupRg, w_LstRg, k_TupRg, k_LstRg, w_Rev, k_Rev, rev_tup, rev_lst, k_Di1, k_PT1, k_PT2, w_Nil, w_Nop, w_Fl, w_Seq, k_Seqn, k_Seqr, k_Seqb, k_Seqc, w_Expr, k_Drop, w_Ret, k_Ret, w_Set, k_Set, w_Asg, k_Asg1, k_Nx, w_If, k_Ift, k_Iff, w_For, k_For, k_Put1, k_Put2, w_Fun, w_Fun0, k_Funn, k_Funr, w_newK, w_newT, asB_bl, gN, gTupD, gsCons, gsNil, wipeE, itemsOf, seqItems, len_str, add_ii, sub_ii, neg_i, lt_ii, le_ii, gt_ii, ge_ii, eq_ii, ne_ii, eq_ss, ne_ss, isnot_bb, is_bb, is_non, isnot_non, isNonD, ix_tupD, ix_lstD, ix_fzD, at_lit0, at_lit1, at_lit2, at_lit3, len_fz, len_lst, len_tup, List.map_cons, List.map_nil, List.length_cons, List.length_nil, List.getElem?_cons_zero, List.getElem?_cons_succ, List.set_cons_zero, List.set_cons_succ, List.cons_append, List.nil_append, List.replicate_succ, List.replicate_zero, Nat.reduceSub, Nat.reduceAdd, Nat.reduceLeDiff, if_true, if_false, Bool.false_eq_true, Bool.true_eq_false, Bool.not_true, Bool.not_false, Option.bind_some, Option.map_some, Nat.zero_add, ite_true, ite_false, Int.cast_ofNat_Int, Int.natCast_zero, Int.natCast_one, Int.reduceLT, Int.reduceLE, Int.reduceEq, Int.reduceAdd, Int.reduceSub, Int.reduceNeg, decide_true, decide_false, true_and, and_true, le_size, add_ll, add_tt, tuple_lst, tuple_tup, list_tup, list_lst, sl_tup, sl_lst, ii_non_int, ii_non_bool, ii_non_str, ii_non_tuple, ii_non_list, ii_non_dict, ii_bl_int, ii_bl_bool, ii_bl_str, ii_bl_tuple, ii_bl_list, ii_bl_dict, ii_int_int, ii_int_bool, ii_int_str, ii_int_tuple, ii_int_list, ii_int_dict, ii_str_int, ii_str_bool, ii_str_str, ii_str_tuple, ii_str_list, ii_str_dict, ii_tup_int, ii_tup_bool, ii_tup_str, ii_tup_tuple, ii_tup_list, ii_tup_dict, ii_lst_int, ii_lst_bool, ii_lst_str, ii_lst_tuple, ii_lst_list, ii_lst_dict, ii_fz_int, ii_fz_bool, ii_fz_str, ii_fz_tuple, ii_fz_list, ii_fz_dict])
  | `(tactic| simp_arith [$ls,*] $l:location) => `(tactic| simp only [wps, w_C, w_Var, k_Var, w_Bin, k_Bin1, k_Bin2, w_Tst, k_B, w_Chain, k_Ch1, k_Ch2, k_Ch3t, k_Ch3f, k_Ch4, w_And, w_Or, w_Not, k_Andt, k_Andf, k_Ort, k_Orf, k_Not, w_bAnd, w_bOr, w_bNot, w_bYes, k_bAndt, k_bAndf, k_bOrt, k_bOrf, k_bNot, w_dIf, k_dIft, k_dIff, w_aNil, w_aCons, k_Cons1, k_Cons2, w_Tup, w_Lst, w_Cell, k_Tup, k_Lst, k_Cell, w_Call, k_Call, w_CallF, k_CallF, w_CallN, k_CallN, k_New, k_AddN1, w_Un, k_Un, w_Sl, k_Sl1, k_Sl2, k_Sl3, w_No, w_So, k_So, w_iSeq, k_Items, w_Range1, w_Range2, k_Rng1, k_Rng2, w_iEnum, k_Enum, w_Comp, k_Comp, k_AsL, w_TupRg, w_LstRg, k_TupRg, k_LstRg, w_Rev, k_Rev, rev_tup, rev_lst, k_Di1, k_PT1, k_PT2, w_Nil, w_Nop, w_Fl, w_Seq, k_Seqn, k_Seqr, k_Seqb, k_Seqc, w_Expr, k_Drop, w_Ret, k_Ret, w_Set, k_Set, w_Asg, k_Asg1, k_Nx, w_If, k_Ift, k_Iff, w_For, k_For, k_Put1, k_Put2, w_Fun, w_Fun0, k_Funn, k_Funr, w_newK, w_newT, asB_bl, gN, gTupD, gsCons, gsNil, wipeE, itemsOf, seqItems, len_str, add_ii, sub_ii, neg_i, lt_ii, le_ii, gt_ii, ge_ii, eq_ii, ne_ii, eq_ss, ne_ss, isnot_bb, is_bb, is_non, isnot_non, isNonD, ix_tupD, ix_lstD, ix_fzD, at_lit0, at_lit1, at_lit2, at_lit3, len_fz, len_lst, len_tup, List.map_cons, List.map_nil, List.length_cons, List.length_nil, List.getElem?_cons_zero, List.getElem?_cons_succ, List.set_cons_zero, List.set_cons_succ, List.cons_append, List.nil_append, List.replicate_succ, List.replicate_zero, Nat.reduceSub, Nat.reduceAdd, Nat.reduceLeDiff, if_true, if_false, Bool.false_eq_true, Bool.true_eq_false, Bool.not_true, Bool.not_false, Option.bind_some, Option.map_some, Nat.zero_add, ite_true, ite_false, Int.cast_ofNat_Int, Int.natCast_zero, Int.natCast_one, Int.reduceLT, Int.reduceLE, Int.reduceEq, Int.reduceAdd, Int.reduceSub, Int.reduceNeg, decide_true, decide_false, true_and, and_true, le_size, add_ll, add_tt, tuple_lst, tuple_tup, list_tup, list_lst, sl_tup, sl_lst, ii_non_int, ii_non_bool, ii_non_str, ii_non_tuple, ii_non_list, ii_non_dict, ii_bl_int, ii_bl_bool, ii_bl_str, ii_bl_tuple, ii_bl_list, ii_bl_dict, ii_int_int, ii_int_bool, ii_int_str, ii_int_tuple, ii_int_list, ii_int_dict, ii_str_int, ii_str_bool, ii_str_str, ii_str_tuple, ii_str_list, ii_str_dict, ii_tup_int, ii_tup_bool, ii_tup_str, ii_tup_tuple, ii_tup_list, ii_tup_dict, ii_lst_int, ii_lst_bool, ii_lst_str, ii_lst_tuple, ii_lst_list, ii_lst_dict, ii_fz_int, ii_fz_bool, ii_fz_str, ii_fz_tuple, ii_fz_list, ii_fz_dict, $ls,*] $l:location)
  | `(tactic| simp_arith $l:location) => `(tactic| simp only [wps, w_C, w_Var, k_Var, w_Bin, k_Bin1, k_Bin2, w_Tst, k_B, w_Chain, k_Ch1, k_Ch2, k_Ch3t, k_Ch3f, k_Ch4, w_And, w_Or, w_Not, k_Andt, k_Andf, k_Ort, k_Orf, k_Not, w_bAnd, w_bOr, w_bNot, w_bYes, k_bAndt, k_bAndf, k_bOrt, k_bOrf, k_bNot, w_dIf, k_dIft, k_dIff, w_aNil, w_aCons, k_Cons1, k_Cons2, w_Tup, w_Lst, w_Cell, k_Tup, k_Lst, k_Cell, w_Call, k_Call, w_CallF, k_CallF, w_CallN, k_CallN, k_New, k_AddN1, w_Un, k_Un, w_Sl, k_Sl1, k_Sl2, k_Sl3, w_No, w_So, k_So, w_iSeq, k_Items, w_Range1, w_Range2, k_Rng1, k_Rng2, w_iEnum, k_Enum, w_Comp, k_Comp, k_AsL, w_TupRg, w_LstRg, k_TupRg, k_LstRg, w_Rev, k_Rev, rev_tup, rev_lst, k_Di1, k_PT1, k_PT2, w_Nil, w_Nop, w_Fl, w_Seq, k_Seqn, k_Seqr, k_Seqb, k_Seqc, w_Expr, k_Drop, w_Ret, k_Ret, w_Set, k_Set, w_Asg, k_Asg1, k_Nx, w_If, k_Ift, k_Iff, w_For, k_For, k_Put1, k_Put2, w_Fun, w_Fun0, k_Funn, k_Funr, w_newK, w_newT, asB_bl, gN, gTupD, gsCons, gsNil, wipeE, itemsOf, seqItems, len_str, add_ii, sub_ii, neg_i, lt_ii, le_ii, gt_ii, ge_ii, eq_ii, ne_ii, eq_ss, ne_ss, isnot_bb, is_bb, is_non, isnot_non, isNonD, ix_tupD, ix_lstD, ix_fzD, at_lit0, at_lit1, at_lit2, at_lit3, len_fz, len_lst, len_tup, List.map_cons, List.map_nil, List.length_cons, List.length_nil, List.getElem?_cons_zero, List.getElem?_cons_succ, List.set_cons_zero, List.set_cons_succ, List.cons_append, List.nil_append, List.replicate_succ, List.replicate_zero, Nat.reduceSub, Nat.reduceAdd, Nat.reduceLeDiff, if_true, if_false, Bool.false_eq_true, Bool.true_eq_false, Bool.not_true, Bool.not_false, Option.bind_some, Option.map_some, Nat.zero_add, ite_true, ite_false, Int.cast_ofNat_Int, Int.natCast_zero, Int.natCast_one, Int.reduceLT, Int.reduceLE, Int.reduceEq, Int.reduceAdd, Int.reduceSub, Int.reduceNeg, decide_true, decide_false, true_and, and_true, le_size, add_ll, add_tt, tuple_lst, tuple_tup, list_tup, list_lst, sl_tup, sl_lst, ii_non_int, ii_non_bool, ii_non_str, ii_non_tuple, ii_non_list, ii_non_dict, ii_bl_int, ii_bl_bool, ii_bl_str, ii_bl_tuple, ii_bl_list, ii_bl_dict, ii_int_int, ii_int_bool, ii_int_str, ii_int_tuple, ii_int_list, ii_int_dict, ii_str_int, ii_str_bool, ii_str_str, ii_str_tuple, ii_str_list, ii_str_dict, ii_tup_int, ii_tup_bool, ii_tup_str, ii_tup_tuple, ii_tup_list, ii_tup_dict, ii_lst_int, ii_lst_bool, ii_lst_str, ii_lst_tuple, ii_lst_list, ii_lst_dict, ii_fz_int, ii_fz_bool, ii_fz_str, ii_fz_tuple, ii_fz_list, ii_fz_dict] $l:location)
namespace G
theorem hn_raise_await : (("raise" : Str) = "await") = False := eq_false (by decide)
theorem hn_raise_begin : (("raise" : Str) = "begin") = False := eq_false (by decide)
theorem hn_raise_work : (("raise" : Str) = "work") = False := eq_false (by decide)
theorem hn_raise_say : (("raise" : Str) = "say") = False := eq_false (by decide)
theorem hn_raise_come : (("raise" : Str) = "come") = False := eq_false (by decide)
theorem hn_raise_go : (("raise" : Str) = "go") = False := eq_false (by decide)
theorem hn_raise_leave : (("raise" : Str) = "leave") = False := eq_false (by decide)
theorem hn_await_raise : (("await" : Str) = "raise") = False := eq_false (by decide)
theorem hn_await_begin : (("await" : Str) = "begin") = False := eq_false (by decide)
theorem hn_await_work : (("await" : Str) = "work") = False := eq_false (by decide)
theorem hn_await_say : (("await" : Str) = "say") = False := eq_false (by decide)
theorem hn_await_come : (("await" : Str) = "come") = False := eq_false (by decide)
theorem hn_await_go : (("await" : Str) = "go") = False := eq_false (by decide)
theorem hn_await_leave : (("await" : Str) = "leave") = False := eq_false (by decide)
theorem hn_begin_raise : (("begin" : Str) = "raise") = False := eq_false (by decide)
theorem hn_begin_await : (("begin" : Str) = "await") = False := eq_false (by decide)
theorem hn_begin_work : (("begin" : Str) = "work") = False := eq_false (by decide)
theorem hn_begin_say : (("begin" : Str) = "say") = False := eq_false (by decide)
theorem hn_begin_come : (("begin" : Str) = "come") = False := eq_false (by decide)
theorem hn_begin_go : (("begin" : Str) = "go") = False := eq_false (by decide)
theorem hn_begin_leave : (("begin" : Str) = "leave") = False := eq_false (by decide)
theorem hn_work_raise : (("work" : Str) = "raise") = False := eq_false (by decide)
theorem hn_work_await : (("work" : Str) = "await") = False := eq_false (by decide)
theorem hn_work_begin : (("work" : Str) = "begin") = False := eq_false (by decide)
theorem hn_work_say : (("work" : Str) = "say") = False := eq_false (by decide)
theorem hn_work_come : (("work" : Str) = "come") = False := eq_false (by decide)
theorem hn_work_go : (("work" : Str) = "go") = False := eq_false (by decide)
theorem hn_work_leave : (("work" : Str) = "leave") = False := eq_false (by decide)
theorem hn_say_raise : (("say" : Str) = "raise") = False := eq_false (by decide)
theorem hn_say_await : (("say" : Str) = "await") = False := eq_false (by decide)
theorem hn_say_begin : (("say" : Str) = "begin") = False := eq_false (by decide)
theorem hn_say_work : (("say" : Str) = "work") = False := eq_false (by decide)
theorem hn_say_come : (("say" : Str) = "come") = False := eq_false (by decide)
theorem hn_say_go : (("say" : Str) = "go") = False := eq_false (by decide)
theorem hn_say_leave : (("say" : Str) = "leave") = False := eq_false (by decide)
theorem hn_come_raise : (("come" : Str) = "raise") = False := eq_false (by decide)
theorem hn_come_await : (("come" : Str) = "await") = False := eq_false (by decide)
theorem hn_come_begin : (("come" : Str) = "begin") = False := eq_false (by decide)
theorem hn_come_work : (("come" : Str) = "work") = False := eq_false (by decide)
theorem hn_come_say : (("come" : Str) = "say") = False := eq_false (by decide)
theorem hn_come_go : (("come" : Str) = "go") = False := eq_false (by decide)
theorem hn_come_leave : (("come" : Str) = "leave") = False := eq_false (by decide)
theorem hn_go_raise : (("go" : Str) = "raise") = False := eq_false (by decide)
theorem hn_go_await : (("go" : Str) = "await") = False := eq_false (by decide)
theorem hn_go_begin : (("go" : Str) = "begin") = False := eq_false (by decide)
theorem hn_go_work : (("go" : Str) = "work") = False := eq_false (by decide)
theorem hn_go_say : (("go" : Str) = "say") = False := eq_false (by decide)
theorem hn_go_come : (("go" : Str) = "come") = False := eq_false (by decide)
theorem hn_go_leave : (("go" : Str) = "leave") = False := eq_false (by decide)
theorem hn_leave_raise : (("leave" : Str) = "raise") = False := eq_false (by decide)
theorem hn_leave_await : (("leave" : Str) = "await") = False := eq_false (by decide)
theorem hn_leave_begin : (("leave" : Str) = "begin") = False := eq_false (by decide)
theorem hn_leave_work : (("leave" : Str) = "work") = False := eq_false (by decide)
theorem hn_leave_say : (("leave" : Str) = "say") = False := eq_false (by decide)
theorem hn_leave_come : (("leave" : Str) = "come") = False := eq_false (by decide)
theorem hn_leave_go : (("leave" : Str) = "go") = False := eq_false (by decide)
theorem app_at (S : Sto) (c : Cell) : (S ++ [c])[S.length]? = some c := by
  rw [List.getElem?_append_right (Nat.le_refl _), Nat.sub_self]
  rfl
/-! ### houses by their deeds -/
abbrev Mem := List (Nat × Str)
inductive Hd where
  | rai (b x : Nat) | awa (b x : Nat) | beg (s : Nat) (ms : Mem) | work (x : Nat) | say (w : Str) | com (w : Nat) | go (w : Nat) | lve (w : Nat)
def memD (ms : Mem) : D := .tup (ms.map fun p => .tup [.int (p.1 : Int), .str p.2])
def Hd.d : Hd → D
  | .rai b x => .tup [.str "raise", .int (b : Int), .int (x : Int)]
  | .awa b x => .tup [.str "await", .int (b : Int), .int (x : Int)]
  | .beg s ms => .tup [.str "begin", .int (s : Int), memD ms]
  | .work x => .tup [.str "work", .int (x : Int)]
  | .say w => .tup [.str "say", .str w]
  | .com w => .tup [.str "come", .int (w : Int)]
  | .go w => .tup [.str "go", .int (w : Int)]
  | .lve w => .tup [.str "leave", .int (w : Int)]
def hsD (s : List Hd) : D := .tup (s.map Hd.d)
abbrev Call := Nat × Mem
def callD (c : Call) : D := .tup [.int (c.1 : Int), memD c.2]
structure HH where
  b : Nat
  w : Nat
  fs : List Call
  ss : List (List Hd)
def HH.d (h : HH) : D := .tup [.int (h.b : Int), .int (h.w : Int), .tup (h.fs.map callD), .tup (h.ss.map hsD)]
def modeOf (kvs : Mem) (w : Nat) : Option Str := (kvs.find? fun p => decide (p.1 = w)).map (·.2)
def hasM (kvs : Mem) (w : Nat) (ms : List Str) : Bool := match modeOf kvs w with
  | some m => decide (m ∈ ms)
  | none => false
def mayDo (kvs : Mem) : Hd → Bool
  | .com w => hasM kvs w ["both", "come"]
  | .go w => hasM kvs w ["both", "go"]
  | .lve w => (modeOf kvs w).isSome
  | .beg _ ms => ms.all fun p => hasM kvs p.1 [p.2, "both"]
  | _ => true
def afterDo (kvs : Mem) : Hd → Mem
  | .lve w => kvs.filter fun p => decide (p.1 ≠ w)
  | _ => kvs
def fits : Mem → List Hd → Bool
  | _, [] => true
  | kvs, e :: es => mayDo kvs e && fits (afterDo kvs e) es
def begOf : Hd → Option Call
  | .beg s ms => some (s, ms)
  | _ => none
def begs (s : List Hd) : List Call := s.filterMap begOf
def scriptAt (h : HH) (c : Call) : List Hd := (h.ss[c.1]?).getD []
/-- the hands called, all of them, each behind its beginner -/
structure Called (h : HH) (A : List Call) : Prop where
  eq : A = h.fs ++ A.flatMap fun c => begs (scriptAt h c)
  len : A.length ≤ 60
  sum : (A.map fun c => (scriptAt h c).length).sum ≤ 1200
  lt : ∀ c ∈ A, c.1 < h.ss.length
  fit : ∀ c ∈ A, fits c.2 (scriptAt h c) = true
  nd : ∀ c ∈ A, (c.2.map (·.1)).Nodup
  ml : ∀ c ∈ A, c.2.length ≤ 10
  sl : ∀ s ∈ h.ss, s.length ≤ 80
def tabM (kvs : Mem) : List (Key × D) := kvs.map fun p => (.inl (p.1 : Int), .str p.2)
theorem tabM_val (w : Nat) : ∀ kvs : Mem, valD (tabM kvs) (.inl (w : Int)) = (modeOf kvs w).map D.str
  | [] => rfl
  | p :: kvs => by
    have ih := tabM_val w kvs
    unfold valD tabM modeOf at ih ⊢
    rw [List.map_cons, List.find?_cons, List.find?_cons]
    have e : decide ((Sum.inl (p.1 : Int) : Key) = .inl (w : Int)) = decide (p.1 = w) := decide_eq_decide.mpr ⟨fun h => by have := Sum.inl.inj h; omega, fun h => by rw [h]⟩
    dsimp only
    rw [e]
    cases decide (p.1 = w) with
    | true => rfl
    | false => exact ih
theorem modeOf_none {kvs : Mem} {w : Nat} (h : w ∉ kvs.map (·.1)) : modeOf kvs w = none := by
  unfold modeOf
  rw [Option.map_eq_none_iff, List.find?_eq_none]
  intro p hp
  rw [decide_eq_true_eq]
  exact fun e => h (List.mem_map.mpr ⟨p, hp, e⟩)
theorem tabM_put {kvs : Mem} {w : Nat} {m : Str} (h : w ∉ kvs.map (·.1)) : putD (tabM kvs) (.inl (w : Int)) (.str m) = tabM (kvs ++ [(w, m)]) := by
  unfold putD
  have e : ((tabM kvs).any fun kv => decide (kv.1 = .inl (w : Int))) = false := by
    rw [List.any_eq_false]
    intro p hp q
    obtain ⟨x, hx, e⟩ := List.mem_map.mp hp
    subst e
    have := Sum.inl.inj (of_decide_eq_true q)
    exact h (List.mem_map.mpr ⟨x, hx, by omega⟩)
  rw [e, if_neg Bool.false_ne_true]
  unfold tabM
  rw [List.map_append]
  rfl
theorem tabM_drop (w : Nat) : ∀ kvs : Mem, dropD (tabM kvs) (.inl (w : Int)) = tabM (kvs.filter fun p => decide (p.1 ≠ w))
  | [] => rfl
  | p :: kvs => by
    have ih := tabM_drop w kvs
    unfold dropD tabM at ih ⊢
    rw [List.map_cons, List.filter_cons, List.filter_cons]
    by_cases c : p.1 = w
    · rw [if_neg (by simp [c]), if_neg (by simpa using c)]
      exact ih
    · have c2 : ¬ (Sum.inl (p.1 : Int) : Key) = .inl (w : Int) := fun q => c (by have := Sum.inl.inj q; omega)
      rw [if_pos (by simpa using c2), if_pos (by simpa using c), List.map_cons, ih]
section
variable {S : Sto} {P : D → Sto → Prop} {n : Nat} {kvs : Mem}
theorem getT_M (h : S[n]? = some (.dK (tabM kvs))) (w : Nat) : getT S (.ref n) (.int (w : Int)) = some ((modeOf kvs w).map D.str) := by
  unfold getT
  dsimp only
  rw [h]
  dsimp only
  show (keyD (.int (w : Int))).map _ = _
  unfold keyD
  rw [Option.map_some, tabM_val]
theorem inT_M (h : S[n]? = some (.dK (tabM kvs))) (w : Nat) : oInT false S (.int (w : Int)) (.ref n) = some (.bl (modeOf kvs w).isSome) := by
  unfold oInT
  rw [getT_M h, Option.map_some, Bool.false_xor]
  cases modeOf kvs w <;> rfl
theorem hasmode_wp (h : S[n]? = some (.dK (tabM kvs))) {w : Nat} {ms : List Str} (k : P (.bl (hasM kvs w ms)) S) : Wp (f_has_mode [.ref n, .int (w : Int), .tup (ms.map D.str)] S) P := by
  unfold f_has_mode d_has_mode
  unfold hasM at k
  cases hm : modeOf kvs w with
  | none =>
    rw [hm] at k
    simp_arith [inT_M h, hm, Option.isSome_none]
    exact k
  | some m =>
    rw [hm] at k
    have hg : oGetT S (.ref n) (.int (w : Int)) = some (.str m) := by
      unfold oGetT
      rw [getT_M h, hm]
      rfl
    simp_arith [inT_M h, hm, Option.isSome_some, hg, in_strs, Bool.false_xor]
    exact k
theorem mem_items (ms : Mem) : (ms.map fun p => D.tup [.int (p.1 : Int), .str p.2]).map (fun d => match d with | .tup [.int i, .str m] => D.bl (hasM kvs i.toNat [m, "both"]) | d => d) = ms.map fun p => D.bl (hasM kvs p.1 [p.2, "both"]) := by
  rw [List.map_map]
  rfl
theorem maydo_wp (h : S[n]? = some (.dK (tabM kvs))) {e : Hd} (hl : ∀ s ms, e = .beg s ms → ms.length ≤ 10) (k : P (.bl (mayDo kvs e)) S) : Wp (f_may_do_with [.ref n, e.d] S) P := by
  unfold f_may_do_with d_may_do_with
  cases e with
  | com w =>
    simp_arith [Hd.d, eq_self, hn_raise_await, hn_raise_begin, hn_raise_work, hn_raise_say, hn_raise_come, hn_raise_go, hn_raise_leave, hn_await_raise, hn_await_begin, hn_await_work, hn_await_say, hn_await_come, hn_await_go, hn_await_leave, hn_begin_raise, hn_begin_await, hn_begin_work, hn_begin_say, hn_begin_come, hn_begin_go, hn_begin_leave, hn_work_raise, hn_work_await, hn_work_begin, hn_work_say, hn_work_come, hn_work_go, hn_work_leave, hn_say_raise, hn_say_await, hn_say_begin, hn_say_work, hn_say_come, hn_say_go, hn_say_leave, hn_come_raise, hn_come_await, hn_come_begin, hn_come_work, hn_come_say, hn_come_go, hn_come_leave, hn_go_raise, hn_go_await, hn_go_begin, hn_go_work, hn_go_say, hn_go_come, hn_go_leave, hn_leave_raise, hn_leave_await, hn_leave_begin, hn_leave_work, hn_leave_say, hn_leave_come, hn_leave_go]
    refine hasmode_wp (ms := ["both", "come"]) h ?_
    simp_arith
    exact k
  | go w =>
    simp_arith [Hd.d, eq_self, hn_raise_await, hn_raise_begin, hn_raise_work, hn_raise_say, hn_raise_come, hn_raise_go, hn_raise_leave, hn_await_raise, hn_await_begin, hn_await_work, hn_await_say, hn_await_come, hn_await_go, hn_await_leave, hn_begin_raise, hn_begin_await, hn_begin_work, hn_begin_say, hn_begin_come, hn_begin_go, hn_begin_leave, hn_work_raise, hn_work_await, hn_work_begin, hn_work_say, hn_work_come, hn_work_go, hn_work_leave, hn_say_raise, hn_say_await, hn_say_begin, hn_say_work, hn_say_come, hn_say_go, hn_say_leave, hn_come_raise, hn_come_await, hn_come_begin, hn_come_work, hn_come_say, hn_come_go, hn_come_leave, hn_go_raise, hn_go_await, hn_go_begin, hn_go_work, hn_go_say, hn_go_come, hn_go_leave, hn_leave_raise, hn_leave_await, hn_leave_begin, hn_leave_work, hn_leave_say, hn_leave_come, hn_leave_go]
    refine hasmode_wp (ms := ["both", "go"]) h ?_
    simp_arith
    exact k
  | lve w =>
    simp_arith [Hd.d, eq_self, hn_raise_await, hn_raise_begin, hn_raise_work, hn_raise_say, hn_raise_come, hn_raise_go, hn_raise_leave, hn_await_raise, hn_await_begin, hn_await_work, hn_await_say, hn_await_come, hn_await_go, hn_await_leave, hn_begin_raise, hn_begin_await, hn_begin_work, hn_begin_say, hn_begin_come, hn_begin_go, hn_begin_leave, hn_work_raise, hn_work_await, hn_work_begin, hn_work_say, hn_work_come, hn_work_go, hn_work_leave, hn_say_raise, hn_say_await, hn_say_begin, hn_say_work, hn_say_come, hn_say_go, hn_say_leave, hn_come_raise, hn_come_await, hn_come_begin, hn_come_work, hn_come_say, hn_come_go, hn_come_leave, hn_go_raise, hn_go_await, hn_go_begin, hn_go_work, hn_go_say, hn_go_come, hn_go_leave, hn_leave_raise, hn_leave_await, hn_leave_begin, hn_leave_work, hn_leave_say, hn_leave_come, hn_leave_go, inT_M h]
    exact k
  | beg s ms =>
    have hms := hl s ms rfl
    simp_arith [Hd.d, eq_self, hn_raise_await, hn_raise_begin, hn_raise_work, hn_raise_say, hn_raise_come, hn_raise_go, hn_raise_leave, hn_await_raise, hn_await_begin, hn_await_work, hn_await_say, hn_await_come, hn_await_go, hn_await_leave, hn_begin_raise, hn_begin_await, hn_begin_work, hn_begin_say, hn_begin_come, hn_begin_go, hn_begin_leave, hn_work_raise, hn_work_await, hn_work_begin, hn_work_say, hn_work_come, hn_work_go, hn_work_leave, hn_say_raise, hn_say_await, hn_say_begin, hn_say_work, hn_say_come, hn_say_go, hn_say_leave, hn_come_raise, hn_come_await, hn_come_begin, hn_come_work, hn_come_say, hn_come_go, hn_come_leave, hn_go_raise, hn_go_await, hn_go_begin, hn_go_work, hn_go_say, hn_go_come, hn_go_leave, hn_leave_raise, hn_leave_await, hn_leave_begin, hn_leave_work, hn_leave_say, hn_leave_come, hn_leave_go, memD]
    refine compGo_pure (fun d => match d with | .tup [.int i, .str m] => .bl (hasM kvs i.toNat [m, "both"]) | d => d) (by rw [List.length_map, sizeLine_eq]; omega) (fun d hd => ?_) ?_
    · obtain ⟨p, _, e⟩ := List.mem_map.mp hd
      subst e
      refine ⟨_, rfl, ?_⟩
      simp_arith
      refine hasmode_wp (ms := [p.2, "both"]) h ?_
      exact ⟨rfl, by rw [Int.toNat_natCast]⟩
    · rw [mem_items]
      simp_arith [all_lst]
      exact k
  | rai b x => simp_arith [Hd.d, eq_self, hn_raise_await, hn_raise_begin, hn_raise_work, hn_raise_say, hn_raise_come, hn_raise_go, hn_raise_leave, hn_await_raise, hn_await_begin, hn_await_work, hn_await_say, hn_await_come, hn_await_go, hn_await_leave, hn_begin_raise, hn_begin_await, hn_begin_work, hn_begin_say, hn_begin_come, hn_begin_go, hn_begin_leave, hn_work_raise, hn_work_await, hn_work_begin, hn_work_say, hn_work_come, hn_work_go, hn_work_leave, hn_say_raise, hn_say_await, hn_say_begin, hn_say_work, hn_say_come, hn_say_go, hn_say_leave, hn_come_raise, hn_come_await, hn_come_begin, hn_come_work, hn_come_say, hn_come_go, hn_come_leave, hn_go_raise, hn_go_await, hn_go_begin, hn_go_work, hn_go_say, hn_go_come, hn_go_leave, hn_leave_raise, hn_leave_await, hn_leave_begin, hn_leave_work, hn_leave_say, hn_leave_come, hn_leave_go]; exact k
  | awa b x => simp_arith [Hd.d, eq_self, hn_raise_await, hn_raise_begin, hn_raise_work, hn_raise_say, hn_raise_come, hn_raise_go, hn_raise_leave, hn_await_raise, hn_await_begin, hn_await_work, hn_await_say, hn_await_come, hn_await_go, hn_await_leave, hn_begin_raise, hn_begin_await, hn_begin_work, hn_begin_say, hn_begin_come, hn_begin_go, hn_begin_leave, hn_work_raise, hn_work_await, hn_work_begin, hn_work_say, hn_work_come, hn_work_go, hn_work_leave, hn_say_raise, hn_say_await, hn_say_begin, hn_say_work, hn_say_come, hn_say_go, hn_say_leave, hn_come_raise, hn_come_await, hn_come_begin, hn_come_work, hn_come_say, hn_come_go, hn_come_leave, hn_go_raise, hn_go_await, hn_go_begin, hn_go_work, hn_go_say, hn_go_come, hn_go_leave, hn_leave_raise, hn_leave_await, hn_leave_begin, hn_leave_work, hn_leave_say, hn_leave_come, hn_leave_go]; exact k
  | work x => simp_arith [Hd.d, eq_self, hn_raise_await, hn_raise_begin, hn_raise_work, hn_raise_say, hn_raise_come, hn_raise_go, hn_raise_leave, hn_await_raise, hn_await_begin, hn_await_work, hn_await_say, hn_await_come, hn_await_go, hn_await_leave, hn_begin_raise, hn_begin_await, hn_begin_work, hn_begin_say, hn_begin_come, hn_begin_go, hn_begin_leave, hn_work_raise, hn_work_await, hn_work_begin, hn_work_say, hn_work_come, hn_work_go, hn_work_leave, hn_say_raise, hn_say_await, hn_say_begin, hn_say_work, hn_say_come, hn_say_go, hn_say_leave, hn_come_raise, hn_come_await, hn_come_begin, hn_come_work, hn_come_say, hn_come_go, hn_come_leave, hn_go_raise, hn_go_await, hn_go_begin, hn_go_work, hn_go_say, hn_go_come, hn_go_leave, hn_leave_raise, hn_leave_await, hn_leave_begin, hn_leave_work, hn_leave_say, hn_leave_come, hn_leave_go]; exact k
  | say w => simp_arith [Hd.d, eq_self, hn_raise_await, hn_raise_begin, hn_raise_work, hn_raise_say, hn_raise_come, hn_raise_go, hn_raise_leave, hn_await_raise, hn_await_begin, hn_await_work, hn_await_say, hn_await_come, hn_await_go, hn_await_leave, hn_begin_raise, hn_begin_await, hn_begin_work, hn_begin_say, hn_begin_come, hn_begin_go, hn_begin_leave, hn_work_raise, hn_work_await, hn_work_begin, hn_work_say, hn_work_come, hn_work_go, hn_work_leave, hn_say_raise, hn_say_await, hn_say_begin, hn_say_work, hn_say_come, hn_say_go, hn_say_leave, hn_come_raise, hn_come_await, hn_come_begin, hn_come_work, hn_come_say, hn_come_go, hn_come_leave, hn_go_raise, hn_go_await, hn_go_begin, hn_go_work, hn_go_say, hn_go_come, hn_go_leave, hn_leave_raise, hn_leave_await, hn_leave_begin, hn_leave_work, hn_leave_say, hn_leave_come, hn_leave_go]; exact k
theorem fits_cons (kvs : Mem) (e : Hd) (es : List Hd) : fits kvs (e :: es) = (mayDo kvs e && fits (afterDo kvs e) es) := rfl
theorem modeOf_drop {kvs : Mem} : True := trivial
theorem frz_set1 {S : Sto} {c : Cell} {e : D} {P : D → Sto → Prop} (he : ltD 0 e = true) (k : P e S) : (∀ j d, j < S.length → (S ++ [c])[j]? = some d → S[j]? = some d ∨ ltC S.length d = true) ∧ ∃ d, mapD (rsv S.length (S ++ [c]) 64) e = some d ∧ P d ((S ++ [c]).take S.length) :=
  ⟨fun j d hj h => .inl (by rw [List.getElem?_append_left hj] at h; exact h), e, mapD_id e he, by rw [List.take_left]; exact k⟩
theorem set_last {S : Sto} {c c' : Cell} : (S ++ [c]).set S.length c' = S ++ [c'] := by
  rw [List.set_append_right _ _ (Nat.le_refl _), Nat.sub_self]
  rfl
theorem scriptfits_wp {s : List Hd} {ms : Mem} (hsl : s.length ≤ 80) (hml : ms.length ≤ 10) (nd : (ms.map (·.1)).Nodup) (hb : ∀ e ∈ s, ∀ i m, e = .beg i m → m.length ≤ 10) (k : P (.bl (fits ms s)) S) : Wp (f_script_fits [hsD s, memD ms] S) P := by
  unfold f_script_fits d_script_fits
  refine wp_frz ?_
  simp_arith [memD]
  refine forGo_wp (fun rest env T => ∃ (done left : Mem) (e3 e4 e5 : Option D), ms = done ++ left ∧ rest = left.map (fun p => D.tup [.int (p.1 : Int), .str p.2]) ∧ env = [some (hsD s), some (.tup (ms.map fun p => D.tup [.int (p.1 : Int), .str p.2])), some (.ref S.length), e3, e4, e5] ∧ T = S ++ [.dK (tabM done)]) _ _ _
    ⟨[], ms, none, none, none, rfl, rfl, rfl, rfl⟩ (fun d rest env T hI => ?_) fun env T hI => ?_
  · obtain ⟨done, left, e3, e4, e5, em, er, e, eT⟩ := hI
    cases left with
    | nil => cases er
    | cons p left =>
      obtain ⟨ed, er2⟩ := List.cons.inj er
      subst e eT ed
      refine ⟨_, rfl, ?_⟩
      have hn : p.1 ∉ done.map (·.1) := fun q => by
        rw [em, List.map_append, List.map_cons] at nd
        exact (List.nodup_append.mp nd).2.2 p.1 q p.1 List.mem_cons_self rfl
      have hdl : done.length ≤ 10 := by
        have := congrArg List.length em
        rw [List.length_append] at this
        omega
      simp_arith
      refine w_PutT ?_
      simp_arith [k_PT1, k_PT2]
      refine ⟨(S ++ [Cell.dK (tabM done)]).set S.length (Cell.dK (tabM (done ++ [(p.1, p.2)]))), ?_, ?_⟩
      · unfold putT
        dsimp only
        rw [app_at]
        dsimp only
        rw [if_pos (by unfold tabM; rw [List.length_map, sizeLine_eq]; omega)]
        dsimp only [keyD, Option.map_some]
        rw [tabM_put hn]
      · rw [set_last]
        exact ⟨done ++ [p], left, _, _, _, by rw [em, List.append_assoc]; rfl, er2, rfl, rfl⟩
  · obtain ⟨done, left, e3, e4, e5, em, er, e, eT⟩ := hI
    cases left with
    | cons p left => cases er
    | nil =>
      rw [List.append_nil] at em
      subst em e eT
      simp_arith [hsD]
      refine forGo_wp (fun rest env T => ∃ (kvs : Mem) (left : List Hd) (e5 : Option D), rest = left.map Hd.d ∧ (∀ e ∈ left, e ∈ s) ∧ env = [some (.tup (s.map Hd.d)), some (.tup (ms.map fun p => D.tup [.int (p.1 : Int), .str p.2])), some (.ref S.length), e3, e4, e5] ∧ T = S ++ [.dK (tabM kvs)] ∧ fits ms s = fits kvs left) _ _ _
        ⟨ms, s, e5, rfl, fun e he => he, rfl, rfl, rfl⟩ (fun d rest env T hI => ?_) fun env T hI => ?_
      · obtain ⟨kvs, left, e5, er, hin, e, eT, hf⟩ := hI
        cases left with
        | nil => cases er
        | cons x left =>
          obtain ⟨ed, er2⟩ := List.cons.inj er
          subst e eT ed
          have hc := app_at S (.dK (tabM kvs))
          refine ⟨_, rfl, ?_⟩
          simp_arith
          refine maydo_wp hc (fun i m e => hb x (hin x List.mem_cons_self) i m e) ?_
          rw [fits_cons] at hf
          cases hm : mayDo kvs x with
          | false =>
            rw [hm, Bool.false_and] at hf
            rw [hf] at k
            simp_arith
            exact frz_set1 rfl k
          | true =>
            rw [hm, Bool.true_and] at hf
            have hin2 : ∀ e ∈ left, e ∈ s := fun e he => hin e (List.mem_cons_of_mem _ he)
            cases x with
            | lve w =>
              simp_arith [Hd.d, eq_self, hn_raise_await, hn_raise_begin, hn_raise_work, hn_raise_say, hn_raise_come, hn_raise_go, hn_raise_leave, hn_await_raise, hn_await_begin, hn_await_work, hn_await_say, hn_await_come, hn_await_go, hn_await_leave, hn_begin_raise, hn_begin_await, hn_begin_work, hn_begin_say, hn_begin_come, hn_begin_go, hn_begin_leave, hn_work_raise, hn_work_await, hn_work_begin, hn_work_say, hn_work_come, hn_work_go, hn_work_leave, hn_say_raise, hn_say_await, hn_say_begin, hn_say_work, hn_say_come, hn_say_go, hn_say_leave, hn_come_raise, hn_come_await, hn_come_begin, hn_come_work, hn_come_say, hn_come_go, hn_come_leave, hn_go_raise, hn_go_await, hn_go_begin, hn_go_work, hn_go_say, hn_go_come, hn_go_leave, hn_leave_raise, hn_leave_await, hn_leave_begin, hn_leave_work, hn_leave_say, hn_leave_come, hn_leave_go]
              refine w_PopK ?_
              simp_arith
              obtain ⟨m, hmo⟩ := Option.isSome_iff_exists.mp (show (modeOf kvs w).isSome = true from hm)
              refine ⟨S.length, rfl, ⟨_, hc⟩, ?_⟩
              simp_arith
              refine ⟨_, .inl (w : Int), .str m, hc, rfl, by rw [tabM_val, hmo]; rfl, ?_⟩
              rw [set_last, tabM_drop]
              exact ⟨_, left, _, er2, hin2, rfl, rfl, hf⟩
            | com w => simp_arith [Hd.d, eq_self, hn_raise_await, hn_raise_begin, hn_raise_work, hn_raise_say, hn_raise_come, hn_raise_go, hn_raise_leave, hn_await_raise, hn_await_begin, hn_await_work, hn_await_say, hn_await_come, hn_await_go, hn_await_leave, hn_begin_raise, hn_begin_await, hn_begin_work, hn_begin_say, hn_begin_come, hn_begin_go, hn_begin_leave, hn_work_raise, hn_work_await, hn_work_begin, hn_work_say, hn_work_come, hn_work_go, hn_work_leave, hn_say_raise, hn_say_await, hn_say_begin, hn_say_work, hn_say_come, hn_say_go, hn_say_leave, hn_come_raise, hn_come_await, hn_come_begin, hn_come_work, hn_come_say, hn_come_go, hn_come_leave, hn_go_raise, hn_go_await, hn_go_begin, hn_go_work, hn_go_say, hn_go_come, hn_go_leave, hn_leave_raise, hn_leave_await, hn_leave_begin, hn_leave_work, hn_leave_say, hn_leave_come, hn_leave_go]; exact ⟨_, left, _, er2, hin2, rfl, rfl, hf⟩
            | go w => simp_arith [Hd.d, eq_self, hn_raise_await, hn_raise_begin, hn_raise_work, hn_raise_say, hn_raise_come, hn_raise_go, hn_raise_leave, hn_await_raise, hn_await_begin, hn_await_work, hn_await_say, hn_await_come, hn_await_go, hn_await_leave, hn_begin_raise, hn_begin_await, hn_begin_work, hn_begin_say, hn_begin_come, hn_begin_go, hn_begin_leave, hn_work_raise, hn_work_await, hn_work_begin, hn_work_say, hn_work_come, hn_work_go, hn_work_leave, hn_say_raise, hn_say_await, hn_say_begin, hn_say_work, hn_say_come, hn_say_go, hn_say_leave, hn_come_raise, hn_come_await, hn_come_begin, hn_come_work, hn_come_say, hn_come_go, hn_come_leave, hn_go_raise, hn_go_await, hn_go_begin, hn_go_work, hn_go_say, hn_go_come, hn_go_leave, hn_leave_raise, hn_leave_await, hn_leave_begin, hn_leave_work, hn_leave_say, hn_leave_come, hn_leave_go]; exact ⟨_, left, _, er2, hin2, rfl, rfl, hf⟩
            | beg i m => simp_arith [Hd.d, eq_self, hn_raise_await, hn_raise_begin, hn_raise_work, hn_raise_say, hn_raise_come, hn_raise_go, hn_raise_leave, hn_await_raise, hn_await_begin, hn_await_work, hn_await_say, hn_await_come, hn_await_go, hn_await_leave, hn_begin_raise, hn_begin_await, hn_begin_work, hn_begin_say, hn_begin_come, hn_begin_go, hn_begin_leave, hn_work_raise, hn_work_await, hn_work_begin, hn_work_say, hn_work_come, hn_work_go, hn_work_leave, hn_say_raise, hn_say_await, hn_say_begin, hn_say_work, hn_say_come, hn_say_go, hn_say_leave, hn_come_raise, hn_come_await, hn_come_begin, hn_come_work, hn_come_say, hn_come_go, hn_come_leave, hn_go_raise, hn_go_await, hn_go_begin, hn_go_work, hn_go_say, hn_go_come, hn_go_leave, hn_leave_raise, hn_leave_await, hn_leave_begin, hn_leave_work, hn_leave_say, hn_leave_come, hn_leave_go]; exact ⟨_, left, _, er2, hin2, rfl, rfl, hf⟩
            | rai b x => simp_arith [Hd.d, eq_self, hn_raise_await, hn_raise_begin, hn_raise_work, hn_raise_say, hn_raise_come, hn_raise_go, hn_raise_leave, hn_await_raise, hn_await_begin, hn_await_work, hn_await_say, hn_await_come, hn_await_go, hn_await_leave, hn_begin_raise, hn_begin_await, hn_begin_work, hn_begin_say, hn_begin_come, hn_begin_go, hn_begin_leave, hn_work_raise, hn_work_await, hn_work_begin, hn_work_say, hn_work_come, hn_work_go, hn_work_leave, hn_say_raise, hn_say_await, hn_say_begin, hn_say_work, hn_say_come, hn_say_go, hn_say_leave, hn_come_raise, hn_come_await, hn_come_begin, hn_come_work, hn_come_say, hn_come_go, hn_come_leave, hn_go_raise, hn_go_await, hn_go_begin, hn_go_work, hn_go_say, hn_go_come, hn_go_leave, hn_leave_raise, hn_leave_await, hn_leave_begin, hn_leave_work, hn_leave_say, hn_leave_come, hn_leave_go]; exact ⟨_, left, _, er2, hin2, rfl, rfl, hf⟩
            | awa b x => simp_arith [Hd.d, eq_self, hn_raise_await, hn_raise_begin, hn_raise_work, hn_raise_say, hn_raise_come, hn_raise_go, hn_raise_leave, hn_await_raise, hn_await_begin, hn_await_work, hn_await_say, hn_await_come, hn_await_go, hn_await_leave, hn_begin_raise, hn_begin_await, hn_begin_work, hn_begin_say, hn_begin_come, hn_begin_go, hn_begin_leave, hn_work_raise, hn_work_await, hn_work_begin, hn_work_say, hn_work_come, hn_work_go, hn_work_leave, hn_say_raise, hn_say_await, hn_say_begin, hn_say_work, hn_say_come, hn_say_go, hn_say_leave, hn_come_raise, hn_come_await, hn_come_begin, hn_come_work, hn_come_say, hn_come_go, hn_come_leave, hn_go_raise, hn_go_await, hn_go_begin, hn_go_work, hn_go_say, hn_go_come, hn_go_leave, hn_leave_raise, hn_leave_await, hn_leave_begin, hn_leave_work, hn_leave_say, hn_leave_come, hn_leave_go]; exact ⟨_, left, _, er2, hin2, rfl, rfl, hf⟩
            | work x => simp_arith [Hd.d, eq_self, hn_raise_await, hn_raise_begin, hn_raise_work, hn_raise_say, hn_raise_come, hn_raise_go, hn_raise_leave, hn_await_raise, hn_await_begin, hn_await_work, hn_await_say, hn_await_come, hn_await_go, hn_await_leave, hn_begin_raise, hn_begin_await, hn_begin_work, hn_begin_say, hn_begin_come, hn_begin_go, hn_begin_leave, hn_work_raise, hn_work_await, hn_work_begin, hn_work_say, hn_work_come, hn_work_go, hn_work_leave, hn_say_raise, hn_say_await, hn_say_begin, hn_say_work, hn_say_come, hn_say_go, hn_say_leave, hn_come_raise, hn_come_await, hn_come_begin, hn_come_work, hn_come_say, hn_come_go, hn_come_leave, hn_go_raise, hn_go_await, hn_go_begin, hn_go_work, hn_go_say, hn_go_come, hn_go_leave, hn_leave_raise, hn_leave_await, hn_leave_begin, hn_leave_work, hn_leave_say, hn_leave_come, hn_leave_go]; exact ⟨_, left, _, er2, hin2, rfl, rfl, hf⟩
            | say w => simp_arith [Hd.d, eq_self, hn_raise_await, hn_raise_begin, hn_raise_work, hn_raise_say, hn_raise_come, hn_raise_go, hn_raise_leave, hn_await_raise, hn_await_begin, hn_await_work, hn_await_say, hn_await_come, hn_await_go, hn_await_leave, hn_begin_raise, hn_begin_await, hn_begin_work, hn_begin_say, hn_begin_come, hn_begin_go, hn_begin_leave, hn_work_raise, hn_work_await, hn_work_begin, hn_work_say, hn_work_come, hn_work_go, hn_work_leave, hn_say_raise, hn_say_await, hn_say_begin, hn_say_work, hn_say_come, hn_say_go, hn_say_leave, hn_come_raise, hn_come_await, hn_come_begin, hn_come_work, hn_come_say, hn_come_go, hn_come_leave, hn_go_raise, hn_go_await, hn_go_begin, hn_go_work, hn_go_say, hn_go_come, hn_go_leave, hn_leave_raise, hn_leave_await, hn_leave_begin, hn_leave_work, hn_leave_say, hn_leave_come, hn_leave_go]; exact ⟨_, left, _, er2, hin2, rfl, rfl, hf⟩
      · obtain ⟨kvs, left, e5, er, hin, e, eT, hf⟩ := hI
        cases left with
        | cons x left => cases er
        | nil =>
          subst e eT
          rw [hf] at k
          simp_arith
          exact frz_set1 rfl k
end
theorem beg_filter : ∀ s : List Hd, ((s.map Hd.d).filter fun d => match d with | .tup (.str w :: _) => decide (w = "begin") | _ => false).map (fun d => match d with | .tup (_ :: r) => D.tup r | d => d) = (begs s).map callD
  | [] => rfl
  | e :: es => by
    have ih := beg_filter es
    cases e with
    | beg i m => exact congrArg (List.cons (callD (i, m))) ih
    | rai b x => exact ih
    | awa b x => exact ih
    | work x => exact ih
    | say w => exact ih
    | com w => exact ih
    | go w => exact ih
    | lve w => exact ih
theorem hat {A : Type} (f : A → D) {l : List A} {i : Nat} {a : A} (h : l[i]? = some a) : atI (l.map f) (i : Int) = some (f a) := at_nat (Int.natCast_nonneg i) (by rw [Int.toNat_natCast, List.getElem?_map, h]; rfl)
theorem called_wp {h : HH} {A : List Call} {S : Sto} {P : D → Sto → Prop} (ca : Called h A) (k : P (.bl true) S) : Wp (f_are_called_well [.tup (h.fs.map callD), .tup (h.ss.map hsD)] S) P := by
  have hA := ca.len
  unfold f_are_called_well d_are_called_well
  refine wp_frz ?_
  have o1 : oListN S [.tup (h.fs.map callD)] = some (h.fs.map callD) := rfl
  simp_arith [o1]
  unfold sWhile
  refine whGo_wp (fun m env T => ∃ (a : Nat) (e5 e6 : Option D) (cs : List Call), m = A.length - a ∧ a ≤ cs.length ∧ cs = h.fs ++ (A.take a).flatMap (fun c => begs (scriptAt h c)) ∧ env = [some (.tup (h.fs.map callD)), some (.tup (h.ss.map hsD)), some (.ref S.length), some (.int (((A.take a).map fun c => (scriptAt h c).length).sum : Nat)), some (.int (a : Int)), e5, e6] ∧ T = S ++ [.lst (cs.map callD)]) _ A.length _ _ (by unfold turns; omega)
    ⟨0, none, none, h.fs, rfl, Nat.zero_le _, by rw [List.take_zero]; exact (List.append_nil _).symm, rfl, rfl⟩ fun m env T hI => ?_
  obtain ⟨a, e5, e6, cs, em, ha, ec, e, eT⟩ := hI
  subst e eT
  have hcell := app_at S (.lst (cs.map callD))
  have pre : A = cs ++ (A.drop a).flatMap fun c => begs (scriptAt h c) := by
    have e1 : A.flatMap (fun c => begs (scriptAt h c)) = (A.take a).flatMap (fun c => begs (scriptAt h c)) ++ (A.drop a).flatMap (fun c => begs (scriptAt h c)) := by
      rw [← List.flatMap_append, List.take_append_drop]
    have e2 := ca.eq
    rw [e1, ← List.append_assoc, ← ec] at e2
    exact e2
  have hcl : cs.length ≤ A.length := by
    have := congrArg List.length pre
    rw [List.length_append] at this
    omega
  have lenq : oLen (S ++ [.lst (cs.map callD)]) [.ref S.length] = some (.int (cs.length : Int)) := by
    show (listOf _ _).map _ = _
    rw [list_ref hcell, Option.map_some, List.length_map]
  simp_arith [lenq]
  by_cases hlt : a < cs.length
  · obtain ⟨c, hc⟩ : ∃ c, cs[a]? = some c := ⟨_, List.getElem?_eq_getElem hlt⟩
    have hcA : A[a]? = some c := by rw [pre, List.getElem?_append_left hlt]; exact hc
    have haA : a < A.length := (List.getElem?_eq_some_iff.mp hcA).1
    have cin := List.mem_of_getElem? hcA
    obtain ⟨sc, hsc⟩ : ∃ sc, h.ss[c.1]? = some sc := ⟨_, List.getElem?_eq_getElem (ca.lt c cin)⟩
    have esc : scriptAt h c = sc := by unfold scriptAt; rw [hsc]; rfl
    have g1 : oIx (S ++ [.lst (cs.map callD)]) (.ref S.length) (.int (a : Int)) = some (callD c) := (ix_refD hcell).trans (hat callD hc)
    have hsl := ca.sl sc (List.mem_of_getElem? hsc)
    have etake : A.take (a + 1) = A.take a ++ [c] := by rw [List.take_succ, hcA]; rfl
    have esum : ((A.take (a + 1)).map fun c => (scriptAt h c).length).sum = ((A.take a).map fun c => (scriptAt h c).length).sum + sc.length := by
      rw [etake, List.map_append, List.sum_append, List.map_cons, List.map_nil, esc]
      simp
    have hsum : ((A.take (a + 1)).map fun c => (scriptAt h c).length).sum ≤ 1200 := by
      refine Nat.le_trans ?_ ca.sum
      have e1 : (A.map fun c => (scriptAt h c).length).sum = ((A.take (a + 1)).map fun c => (scriptAt h c).length).sum + ((A.drop (a + 1)).map fun c => (scriptAt h c).length).sum := by
        rw [← List.sum_append, ← List.map_append, List.take_append_drop]
      omega
    have hbm : ∀ e ∈ sc, ∀ i m, e = .beg i m → m.length ≤ 10 := fun e he i m q => by
      subst q
      have h1 : (i, m) ∈ begs sc := List.mem_filterMap.mpr ⟨_, he, rfl⟩
      have h2 : (i, m) ∈ A := by
        rw [ca.eq]
        exact List.mem_append_right _ (List.mem_flatMap.mpr ⟨c, cin, by rw [esc]; exact h1⟩)
      exact ca.ml _ h2
    simp_arith [decide_eq_true (show (a : Int) < (cs.length : Int) by omega), g1, callD, hat hsD hsc, hsD, List.length_map]
    have n1 : ¬ ((cs.length : Nat) : Int) > 60 := by omega
    have n2 : ¬ ((((A.take a).map fun c => (scriptAt h c).length).sum : Nat) : Int) + (sc.length : Int) > 1200 := by omega
    simp_arith [lenq, decide_eq_false n1, decide_eq_false n2, g1, callD]
    have hw := scriptfits_wp (S := S ++ [.lst (cs.map callD)]) (s := sc) (ms := c.2) (P := fun d T => d = .bl true ∧ T = S ++ [.lst (cs.map callD)]) hsl (ca.ml c cin) (ca.nd c cin) hbm ⟨by rw [← esc, ca.fit c cin], rfl⟩
    unfold hsD at hw
    refine hw.mono fun d T q => ?_
    obtain ⟨q1, q2⟩ := q
    subst q1 q2
    simp_arith
    refine w_Ext ?_
    simp_arith
    refine ⟨S.length, rfl, ⟨_, hcell⟩, ?_⟩
    simp_arith
    refine compGo_filter (fun d => match d with | .tup (.str w :: _) => decide (w = "begin") | _ => false) (fun d => match d with | .tup (_ :: r) => D.tup r | d => d) (by rw [List.length_map, sizeLine_eq]; omega) (fun d hd => ?_) ?_
    · obtain ⟨e, _, ee⟩ := List.mem_map.mp hd
      subst ee
      refine ⟨_, rfl, ?_, fun _ => ?_⟩
      · cases e <;> simp_arith [Hd.d, eq_self, hn_raise_await, hn_raise_begin, hn_raise_work, hn_raise_say, hn_raise_come, hn_raise_go, hn_raise_leave, hn_await_raise, hn_await_begin, hn_await_work, hn_await_say, hn_await_come, hn_await_go, hn_await_leave, hn_begin_raise, hn_begin_await, hn_begin_work, hn_begin_say, hn_begin_come, hn_begin_go, hn_begin_leave, hn_work_raise, hn_work_await, hn_work_begin, hn_work_say, hn_work_come, hn_work_go, hn_work_leave, hn_say_raise, hn_say_await, hn_say_begin, hn_say_work, hn_say_come, hn_say_go, hn_say_leave, hn_come_raise, hn_come_await, hn_come_begin, hn_come_work, hn_come_say, hn_come_go, hn_come_leave, hn_go_raise, hn_go_await, hn_go_begin, hn_go_work, hn_go_say, hn_go_come, hn_go_leave, hn_leave_raise, hn_leave_await, hn_leave_begin, hn_leave_work, hn_leave_say, hn_leave_come, hn_leave_go]
      · have c1 : ∀ (x : D) (r : List D), r.length ≤ 5 → cutD (x :: r) (some 1) none = r := fun x r hr => by rw [cut_hi _ _ (by decide) (by rw [List.length_cons]; omega)]; rfl
        cases e <;> simp_arith [Hd.d, c1 _ [_, _] (by show 2 ≤ 5; decide), c1 _ [_] (by show 1 ≤ 5; decide)]
    · rw [beg_filter]
      have hlen2 : cs.length + (begs sc).length ≤ 60 := by
        have e3 : A.drop a = c :: A.drop (a + 1) := List.drop_eq_getElem_cons haA |>.trans (by rw [show A[a] = c from Option.some.inj ((List.getElem?_eq_getElem haA).symm.trans hcA)])
        have := congrArg List.length pre
        rw [e3, List.flatMap_cons, List.length_append, List.length_append, esc] at this
        omega
      refine ⟨cs.map callD, (begs sc).map callD, hcell, rfl, by rw [List.length_map, List.length_map, sizeLine_eq]; omega, ?_⟩
      rw [set_last, ← List.map_append]
      refine ⟨A.length - (a + 1), by omega, a + 1, some (.tup (sc.map Hd.d)), e6, cs ++ begs sc, rfl, by rw [List.length_append]; omega, ?_, ?_, rfl⟩
      · rw [ec, etake, List.flatMap_append, List.flatMap_cons, List.flatMap_nil, List.append_nil, esc, List.append_assoc]
      · rw [esum]
        rfl
  · simp_arith [decide_eq_false (show ¬ (a : Int) < (cs.length : Int) by omega)]
    exact frz_set1 rfl k

end G
end DL
end L2

set_option Elab.async false
set_option linter.all false
set_option maxRecDepth 100000
namespace L2
namespace DL
open PySem PySem.Spec PyProof.Rows
namespace G
/-! ### good houses -/
def okS (w : Str) : Prop := PyData.strOk w = true ∧ w.length ≤ 1000
def memFn (ms : Mem) : Prop := ∀ p ∈ ms, okS p.2
def Hd.Fn : Hd → Prop
  | .say w => okS w
  | .beg _ ms => memFn ms
  | _ => True
structure HH.Fn (h : HH) : Prop where
  fs : ∀ c ∈ h.fs, memFn c.2
  ss : ∀ s ∈ h.ss, ∀ e ∈ s, e.Fn
def Hd.Vd (b w n a' : Nat) : Hd → Prop
  | .rai k x => k < b ∧ 1 ≤ x ∧ x ≤ 99
  | .awa k x => k < b ∧ 1 ≤ x ∧ x ≤ 9999
  | .beg s ms => a' < s ∧ s < n ∧ membersB w (memD ms) = true
  | .work x => x ≤ 999
  | .say v => wordB (.str v) = true
  | .com k => k < w
  | .go k => k < w
  | .lve k => k < w
structure HH.Vd (h : HH) : Prop where
  b : h.b ≤ 99
  w : h.w ≤ 6
  f1 : 1 ≤ h.fs.length
  f40 : h.fs.length ≤ 40
  s1 : 1 ≤ h.ss.length
  s20 : h.ss.length ≤ 20
  sl : ∀ s ∈ h.ss, s.length ≤ 80
  sd : ∀ (i : Nat) (s : List Hd), h.ss[i]? = some s → ∀ e ∈ s, e.Vd h.b h.w h.ss.length i
  fc : ∀ c ∈ h.fs, c.1 < h.ss.length ∧ membersB h.w (memD c.2) = true
theorem ft_t' {a b i : Int} (h1 : a ≤ i) (h2 : i ≤ b) : fromTo a b (.int i) = true := by
  show (decide (a ≤ i) && decide (i ≤ b)) = true
  rw [decide_eq_true h1, decide_eq_true h2]
  rfl
theorem vd_deedB {b w n a' : Nat} {e : Hd} (v : e.Vd b w n a') : hdeedB b w n a' e.d = true := by
  cases e with
  | rai k x =>
    obtain ⟨v1, v2, v3⟩ := v
    show hthreeB _ _ _ _ "raise" _ _ = true
    unfold hthreeB
    rw [if_pos rfl, ft_t' (by omega) (by omega), ft_t' (by omega) (by omega)]
    rfl
  | awa k x =>
    obtain ⟨v1, v2, v3⟩ := v
    show hthreeB _ _ _ _ "await" _ _ = true
    unfold hthreeB
    rw [if_neg (by decide), if_pos rfl, ft_t' (by omega) (by omega), ft_t' (by omega) (by omega)]
    rfl
  | beg s ms =>
    obtain ⟨v1, v2, v3⟩ := v
    show hthreeB _ _ _ _ "begin" _ _ = true
    unfold hthreeB
    rw [if_neg (by decide), if_neg (by decide), ft_t' (by omega) (by omega), v3]
    rfl
  | work x =>
    have v' : x ≤ 999 := v
    show htwoB _ "work" _ = true
    unfold htwoB
    rw [if_pos rfl, ft_t' (by omega) (by omega)]
  | say u =>
    show htwoB _ "say" _ = true
    unfold htwoB
    rw [if_neg (by decide), if_pos rfl]
    exact v
  | com k =>
    have v' : k < w := v
    show htwoB _ "come" _ = true
    unfold htwoB
    rw [if_neg (by decide), if_neg (by decide), ft_t' (by omega) (by omega)]
    rfl
  | go k =>
    have v' : k < w := v
    show htwoB _ "go" _ = true
    unfold htwoB
    rw [if_neg (by decide), if_neg (by decide), ft_t' (by omega) (by omega)]
    rfl
  | lve k =>
    have v' : k < w := v
    show htwoB _ "leave" _ = true
    unfold htwoB
    rw [if_neg (by decide), if_neg (by decide), ft_t' (by omega) (by omega)]
    rfl
theorem hscripts_all {b w n : Nat} : ∀ {ss : List (List Hd)} {k : Nat}, (∀ s ∈ ss, s.length ≤ 80) → (∀ (i : Nat) (s : List Hd), ss[i]? = some s → ∀ e ∈ s, e.Vd b w n (k + i)) → hscriptsB b w n k (ss.map hsD) = true
  | [], _, _, _ => rfl
  | s :: ss, k, hl, hv => by
    have ih := hscripts_all (ss := ss) (k := k + 1) (fun x hx => hl x (List.mem_cons_of_mem _ hx)) fun i x hx e he => by
      have := hv (i + 1) x hx e he
      rw [show k + (i + 1) = k + 1 + i by omega] at this
      exact this
    show (hscriptB b w n k (.tup (s.map Hd.d)) && hscriptsB b w n (k + 1) (ss.map hsD)) = true
    rw [ih, Bool.and_true]
    show (decide ((s.map Hd.d).length ≤ 80) && (s.map Hd.d).all (hdeedB b w n k)) = true
    rw [List.length_map, decide_eq_true (hl s List.mem_cons_self), Bool.true_and, List.all_map]
    exact List.all_eq_true.mpr fun e he => vd_deedB (hv 0 s rfl e he)
theorem house_pre {h : HH} (v : h.Vd) : preB h.d = true := by
  have := v.b
  have := v.w
  show (decide (0 ≤ (h.b : Int)) && decide ((h.b : Int) ≤ 99) && (decide (0 ≤ (h.w : Int)) && decide ((h.w : Int) ≤ 6)) && (decide (1 ≤ (h.fs.map callD).length) && decide ((h.fs.map callD).length ≤ 40)) && (decide (1 ≤ (h.ss.map hsD).length) && decide ((h.ss.map hsD).length ≤ 20)) && hscriptsB h.b h.w ((h.ss.map hsD).length : Nat) 0 (h.ss.map hsD) && (h.fs.map callD).all (callingB h.w ((h.ss.map hsD).length : Nat))) = true
  rw [List.length_map, List.length_map, decide_eq_true (show 0 ≤ (h.b : Int) by omega), decide_eq_true (show (h.b : Int) ≤ 99 by omega), decide_eq_true (show 0 ≤ (h.w : Int) by omega), decide_eq_true (show (h.w : Int) ≤ 6 by omega), decide_eq_true v.f1, decide_eq_true v.f40, decide_eq_true v.s1, decide_eq_true v.s20,
    hscripts_all v.sl (fun i s hs e he => by rw [Nat.zero_add]; exact v.sd i s hs e he)]
  simp only [Bool.true_and]
  rw [List.all_map]
  refine List.all_eq_true.mpr fun c hc => ?_
  obtain ⟨h1, h2⟩ := v.fc c hc
  show (fromTo 0 ((h.ss.length : Int) - 1) (.int (c.1 : Int)) && membersB h.w (memD c.2)) = true
  rw [ft_t' (by omega) (by omega), h2]
  rfl
/-! ### what houses are made of -/
theorem typedL_of' {S : Sto} : ∀ {ds : List D}, (∀ d ∈ ds, typedD S d = true) → typedL S ds = true
  | [], _ => rfl
  | d :: ds, h => by
    show (typedD S d && typedL S ds) = true
    rw [h d List.mem_cons_self, typedL_of' fun x hx => h x (List.mem_cons_of_mem _ hx)]
    rfl
theorem shortL_of' : ∀ {ds : List D}, (∀ d ∈ ds, shortD d = true) → shortL ds = true
  | [], _ => rfl
  | d :: ds, h => by
    show (shortD d && shortL ds) = true
    rw [h d List.mem_cons_self, shortL_of' fun x hx => h x (List.mem_cons_of_mem _ hx)]
    rfl
theorem ltL_of' {k : Nat} : ∀ {ds : List D}, (∀ d ∈ ds, ltD k d = true) → ltL k ds = true
  | [], _ => rfl
  | d :: ds, h => by
    show (ltD k d && ltL k ds) = true
    rw [h d List.mem_cons_self, ltL_of' fun x hx => h x (List.mem_cons_of_mem _ hx)]
    rfl
/-- a plain tree of a depth, its texts short -/
structure PlT (n : Nat) (d : D) : Prop where
  pl : plD n d = true
  lt : ltD 0 d = true
  ok : ∀ S, okD S d
theorem PlT.tup {n : Nat} {ds : List D} (h : ∀ d ∈ ds, PlT n d) : PlT (n + 1) (.tup ds) :=
  ⟨plL_mem fun d hd => (h d hd).pl, ltL_of' fun d hd => (h d hd).lt, fun S => ⟨typedL_of' fun d hd => ((h d hd).ok S).1, shortL_of' fun d hd => ((h d hd).ok S).2⟩⟩
theorem PlT.int (n : Nat) (i : Int) : PlT n (.int i) := ⟨by cases n <;> rfl, rfl, fun S => ⟨rfl, rfl⟩⟩
theorem PlT.str (n : Nat) {w : Str} (h : okS w) : PlT n (.str w) := ⟨by cases n <;> exact h.1, rfl, fun S => ⟨rfl, decide_eq_true h.2⟩⟩
theorem okS_w {w : Str} (h : (PyData.strOk w && decide (w.length ≤ 1000)) = true) : okS w := by
  rw [Bool.and_eq_true, decide_eq_true_eq] at h
  exact h
theorem plt_mem {n : Nat} {ms : Mem} (h : memFn ms) : PlT (n + 2) (memD ms) := PlT.tup fun d hd => by
  obtain ⟨p, hp, e⟩ := List.mem_map.mp hd
  subst e
  exact PlT.tup (allc (PlT.int _ _) (allc (PlT.str _ (h p hp)) alln))
theorem plt_hd {n : Nat} {e : Hd} (h : e.Fn) : PlT (n + 3) e.d := by
  cases e with
  | rai b x => exact PlT.tup (allc (PlT.str _ (okS_w (by decide +kernel))) (allc (PlT.int _ _) (allc (PlT.int _ _) alln)))
  | awa b x => exact PlT.tup (allc (PlT.str _ (okS_w (by decide +kernel))) (allc (PlT.int _ _) (allc (PlT.int _ _) alln)))
  | beg s ms => exact PlT.tup (allc (PlT.str _ (okS_w (by decide +kernel))) (allc (PlT.int _ _) (allc (plt_mem h) alln)))
  | work x => exact PlT.tup (allc (PlT.str _ (okS_w (by decide +kernel))) (allc (PlT.int _ _) alln))
  | say w => exact PlT.tup (allc (PlT.str _ (okS_w (by decide +kernel))) (allc (PlT.str _ h) alln))
  | com w => exact PlT.tup (allc (PlT.str _ (okS_w (by decide +kernel))) (allc (PlT.int _ _) alln))
  | go w => exact PlT.tup (allc (PlT.str _ (okS_w (by decide +kernel))) (allc (PlT.int _ _) alln))
  | lve w => exact PlT.tup (allc (PlT.str _ (okS_w (by decide +kernel))) (allc (PlT.int _ _) alln))
theorem plt_sc {n : Nat} {s : List Hd} (h : ∀ e ∈ s, e.Fn) : PlT (n + 4) (hsD s) := PlT.tup fun d hd => by
  obtain ⟨e, he, q⟩ := List.mem_map.mp hd
  subst q
  exact plt_hd (h e he)
theorem plt_call {n : Nat} {c : Call} (h : memFn c.2) : PlT (n + 3) (callD c) := PlT.tup (allc (PlT.int _ _) (allc (plt_mem h) alln))
theorem plt_h {n : Nat} {h : HH} (f : h.Fn) : PlT (n + 6) h.d := by
  refine PlT.tup (allc (PlT.int _ _) (allc (PlT.int _ _) (allc (PlT.tup fun d hd => ?_) (allc (PlT.tup fun d hd => ?_) alln))))
  · obtain ⟨c, hc, e⟩ := List.mem_map.mp hd
    subst e
    exact plt_call (n := n + 1) (f.fs c hc)
  · obtain ⟨s, hs, e⟩ := List.mem_map.mp hd
    subst e
    exact plt_sc (f.ss s hs)
theorem house_wp {h : HH} {A : List Call} {S : Sto} {P : D → Sto → Prop} (v : h.Vd) (f : h.Fn) (ca : Called h A) (k : P (.bl true) S) : Wp (f_is_house [h.d] S) P := by
  refine ishouse_wp ((plt_h (n := 0) f).ok S) (fun e => by rw [house_pre v] at e; cases e) fun b w fs ss e _ => ?_
  have e' : h.d = .tup [.int (h.b : Int), .int (h.w : Int), .tup (h.fs.map callD), .tup (h.ss.map hsD)] := rfl
  rw [e'] at e
  injection e with e
  injection e with _ e
  injection e with _ e
  injection e with e1 e
  injection e with e2 _
  injection e1 with e1
  injection e2 with e2
  rw [← e1, ← e2]
  exact called_wp ca k
open Classical in
theorem ne_h {h : HH} (f : h.Fn) (T : Sto) : oNe T h.d h.d = some (.bl false) := by
  have e := (plt_h (n := 58) f).pl
  rw [ne_pl rfl e e]
  simp
open Classical in
theorem eq_h {h : HH} (f : h.Fn) (T : Sto) : oEq T h.d h.d = some (.bl true) := by
  have e := (plt_h (n := 58) f).pl
  rw [eq_pl rfl e e]
  simp
/-! ### a store that has grown -/
def Own (S T : Sto) : Prop := ∃ l, T = S ++ l
theorem Own.refl (S : Sto) : Own S S := ⟨[], (List.append_nil S).symm⟩
theorem Own.app {S T : Sto} (h : Own S T) (c : Cell) : Own S (T ++ [c]) := by
  obtain ⟨l, e⟩ := h
  exact ⟨l ++ [c], by rw [e, List.append_assoc]⟩
theorem Own.set {S T : Sto} (h : Own S T) {q : Nat} (hq : S.length ≤ q) (c : Cell) : Own S (T.set q c) := by
  obtain ⟨l, e⟩ := h
  exact ⟨l.set (q - S.length) c, by rw [e, List.set_append_right _ _ hq]⟩
theorem Own.trans {S T U : Sto} (h : Own S T) (k : Own T U) : Own S U := by
  obtain ⟨l, e⟩ := h
  obtain ⟨m, e2⟩ := k
  exact ⟨l ++ m, by rw [e2, e, List.append_assoc]⟩
theorem Own.len {S T : Sto} (h : Own S T) : S.length ≤ T.length := by
  obtain ⟨l, e⟩ := h
  rw [e, List.length_append]
  omega
theorem Own.at {S T : Sto} (h : Own S T) {j : Nat} {c : Cell} (e : S[j]? = some c) : T[j]? = some c := by
  obtain ⟨l, q⟩ := h
  rw [q, List.getElem?_append_left (List.getElem?_eq_some_iff.mp e).1]
  exact e
theorem frz_own {S T : Sto} {e : D} {P : D → Sto → Prop} (h : Own S T) (he : ltD 0 e = true) (k : P e S) : (∀ j c, j < S.length → T[j]? = some c → S[j]? = some c ∨ ltC S.length c = true) ∧ ∃ d, mapD (rsv S.length T 64) e = some d ∧ P d (T.take S.length) := by
  obtain ⟨l, q⟩ := h
  refine ⟨fun j c hj e2 => .inl (by rw [q, List.getElem?_append_left hj] at e2; exact e2), e, mapD_id e he, ?_⟩
  rw [q, List.take_left]
  exact k

end G
end DL
end L2

set_option Elab.async false
set_option linter.all false
set_option maxRecDepth 100000
namespace L2
namespace DL
open PySem PySem.Spec PyProof.Rows
local macro_rules
  | `(tactic| simp_arith [$ls,*]) => `(tactic| simp only [wps, w_C, w_Var, k_Var, w_Bin, k_Bin1, k_Bin2, w_Tst, k_B, w_Chain, k_Ch1, k_Ch2, k_Ch3t, k_Ch3f, k_Ch4, w_And, w_Or, w_Not, k_Andt, k_Andf, k_Ort, k_Orf, k_Not, w_bAnd, w_bOr, w_bNot, w_bYes, k_bAndt, k_bAndf, k_bOrt, k_bOrf, k_bNot, w_dIf, k_dIft, k_dIff, w_aNil, w_aCons, k_Cons1, k_Cons2, w_Tup, w_Lst, w_Cell, k_Tup, k_Lst, k_Cell, w_Call, k_Call, w_CallF, k_CallF, w_CallN, k_CallN, k_New, k_AddN1, w_Un, k_Un, w_Sl, k_Sl1, k_Sl2, k_Sl3, w_No, w_So, k_So, w_iSeq, k_Items, w_Range1, w_Range2, k_Rng1, k_Rng2, w_iEnum, k_Enum, w_Comp, k_Comp, k_AsL, w_TupRg, w_LstRg, k_TupRg, k_LstRg, w_Rev, k_Rev, rev_tup, rev_lst, k_Di1, k_PT1, k_PT2, w_Nil, w_Nop, w_Fl, w_Seq, k_Seqn, k_Seqr, k_Seqb, k_Seqc, w_Expr, k_Drop, w_Ret, k_Ret, w_Set, k_Set, w_Asg, k_Asg1, k_Nx, w_If, k_Ift, k_Iff, w_For, k_For, k_Put1, k_Put2, w_Fun, w_Fun0, k_Funn, k_Funr, w_newK, w_newT, asB_bl, gN, gTupD, gsCons, gsNil, wipeE, itemsOf, seqItems, len_str, add_ii, sub_ii, neg_i, lt_ii, le_ii, gt_ii, ge_ii, eq_ii, ne_ii, eq_ss, ne_ss, isnot_bb, is_bb, is_non, isnot_non, isNonD, ix_tupD, ix_lstD, ix_fzD, at_lit0, at_lit1, at_lit2, at_lit3, len_fz, len_lst, len_tup, List.map_cons, List.map_nil, List.length_cons, List.length_nil, List.getElem?_cons_zero, List.getElem?_cons_succ, List.set_cons_zero, List.set_cons_succ, List.cons_append, List.nil_append, List.replicate_succ, List.replicate_zero, Nat.reduceSub, Nat.reduceAdd, Nat.reduceLeDiff, if_true, if_false, Bool.false_eq_true, Bool.true_eq_false, Bool.not_true, Bool.not_false, Option.bind_some, Option.map_some, Nat.zero_add, ite_true, ite_false, Int.cast_ofNat_Int, Int.natCast_zero, Int.natCast_one, Int.reduceLT, Int.reduceLE, Int.reduceEq, Int.reduceAdd, Int.reduceSub, Int.reduceNeg, decide_true, decide_false, true_and, and_true, le_size, add_ll, add_tt, tuple_lst, tuple_tup, list_tup, list_lst, sl_tup, sl_lst, ii_non_int, ii_non_bool, ii_non_str, ii_non_tuple, ii_non_list, ii_non_dict, ii_bl_int, ii_bl_bool, ii_bl_str, ii_bl_tuple, ii_bl_list, ii_bl_dict, ii_int_int, ii_int_bool, ii_int_str, ii_int_tuple, ii_int_list, ii_int_dict, ii_str_int, ii_str_bool, ii_str_str, ii_str_tuple, ii_str_list, ii_str_dict, ii_tup_int, ii_tup_bool, ii_tup_str, ii_tup_tuple, ii_tup_list, ii_tup_dict, ii_lst_int, ii_lst_bool, ii_lst_str, ii_lst_tuple, ii_lst_list, ii_lst_dict, ii_fz_int, ii_fz_bool, ii_fz_str, ii_fz_tuple, ii_fz_list, ii_fz_dict, $ls,*])
  | `(tactic| simp_arith) => `(tactic| simp only [wps, w_C, w_Var, k_Var, w_Bin, k_Bin1, k_Bin2, w_Tst, k_B, w_Chain, k_Ch1, k_Ch2, k_Ch3t, k_Ch3f, k_Ch4, w_And, w_Or, w_Not, k_Andt, k_Andf, k_Ort, k_Orf, k_Not, w_bAnd, w_bOr, w_bNot, w_bYes, k_bAndt, k_bAndf, k_bOrt, k_bOrf, k_bNot, w_dIf, k_dIft, k_dIff, w_aNil, w_aCons, k_Cons1, k_Cons2, w_Tup, w_Lst, w_Cell, k_Tup, k_Lst, k_Cell, w_Call, k_Call, w_CallF, k_CallF, w_CallN, k_CallN, k_New, k_AddN1, w_Un, k_Un, w_Sl, k_Sl1, k_Sl2, k_Sl3, w_No, w_So, k_So, w_iSeq, k_Items, w_Range1, w_Range2, k_Rng1, k_Rng2, w_iEnum, k_Enum, w_Comp, k_Comp, k_AsL, w_TupRg, w_LstRg, k_TupRg, k_LstRg, w_Rev, k_Rev, rev_tup, rev_lst, k_Di1, k_PT1, k_PT2, w_Nil, w_Nop, w_Fl, w_Seq, k_Seqn, k_Seqr, k_Seqb, k_Seqc, w_Expr, k_Drop, w_Ret, k_Ret, w_Set, k_Set, w_Asg, k_Asg1, k_Nx, w_If, k_Ift, k_Iff, w_For, k_For, k_Put1, k_Put2, w_Fun, w_Fun0, k_Funn, k_Funr, w_newK, w_newT, asB_bl, gN, gTupD, gsCons, gsNil, wipeE, itemsOf, seqItems, len_str, add_ii, sub_ii, neg_i, lt_ii, le_ii, gt_ii, ge_ii, eq_ii, ne_ii, eq_ss, ne_ss, isnot_bb, is_bb, is_non, isnot_non, isNonD, ix_tupD, ix_lstD, ix_fzD, at_lit0, at_lit1, at_lit2, at_lit3, len_fz, len_lst, len_tup, List.map_cons, List.map_nil, List.length_cons, List.length_nil, List.getElem?_cons_zero, List.getElem?_cons_succ, List.set_cons_zero, List.set_cons_succ, List.cons_append, List.nil_append, List.replicate_succ, List.replicate_zero, Nat.reduceSub, Nat.reduceAdd, Nat.reduceLeDiff, if_true, if_false, Bool.false_eq_true, Bool.true_eq_false, Bool.not_true, Bool.not_false, Option.bind_some, Option.map_some, Nat.zero_add, ite_true, ite_false, Int.cast_ofNat_Int, Int.natCast_zero, Int.natCast_one, Int.reduceLT, Int.reduceLE, Int.reduceEq, Int.reduceAdd, Int.reduceSub, Int.reduceNeg, decide_true, decide_false, true_and, and_true, le_size, add_ll, add_tt, tuple_lst, tuple_tup, list_tup, list_lst, sl_tup, sl_lst, ii_non_int, ii_non_bool, ii_non_str, ii_non_tuple, ii_non_list, ii_non_dict, ii_bl_int, ii_bl_bool, ii_bl_str, ii_bl_tuple, ii_bl_list, ii_bl_dict, ii_int_int, ii_int_bool, ii_int_str, ii_int_tuple, ii_int_list, ii_int_dict, ii_str_int, ii_str_bool, ii_str_str, ii_str_tuple, ii_str_list, ii_str_dict, ii_tup_int, ii_tup_bool, ii_tup_str, ii_tup_tuple, ii_tup_list, ii_tup_dict, ii_lst_int, ii_lst_bool, ii_lst_str, ii_lst_tuple, ii_lst_list, ii_lst_dict, ii_fz_int, ii_fz_bool, ii_fz_str, ii_fz_tuple, ii_fz_list, ii_fz_dict])
  | `(tactic| simp_arith [$ls,*] $l:location) => `(tactic| simp only [wps, w_C, w_Var, k_Var, w_Bin, k_Bin1, k_Bin2, w_Tst, k_B, w_Chain, k_Ch1, k_Ch2, k_Ch3t, k_Ch3f, k_Ch4, w_And, w_Or, w_Not, k_Andt, k_Andf, k_Ort, k_Orf, k_Not, w_bAnd, w_bOr, w_bNot, w_bYes, k_bAndt, k_bAndf, k_bOrt, k_bOrf, k_bNot, w_dIf, k_dIft, k_dIff, w_aNil, w_aCons, k_Cons1, k_Cons2, w_Tup, w_Lst, w_Cell, k_Tup, k_Lst, k_Cell, w_Call, k_Call, w_CallF, k_CallF, w_CallN, k_CallN, k_New, k_AddN1, w_Un, k_Un, w_Sl, k_Sl1, k_Sl2, k_Sl3, w_No, w_So, k_So, w_iSeq, k_Items, w_Range1, w_Range2, k_Rng1, k_Rng2, w_iEnum, k_Enum, w_Comp, k_Comp, k_AsL, w_TupRg, w_LstRg, k_TupRg, k_LstRg, w_Rev, k_Rev, rev_tup, rev_lst, k_Di1, k_PT1, k_PT2, w_Nil, w_Nop, w_Fl, w_Seq, k_Seqn, k_Seqr, k_Seqb, k_Seqc, w_Expr, k_Drop, w_Ret, k_Ret, w_Set, k_Set, w_Asg, k_Asg1, k_Nx, w_If, k_Ift, k_Iff, w_For, k_For, k_Put1, k_Put2, w_Fun, w_Fun0, k_Funn, k_Funr, w_newK, w_newT, asB_bl, gN, gTupD, gsCons, gsNil, wipeE, itemsOf, seqItems, len_str, add_ii, sub_ii, neg_i, lt_ii, le_ii, gt_ii, ge_ii, eq_ii, ne_ii, eq_ss, ne_ss, isnot_bb, is_bb, is_non, isnot_non, isNonD, ix_tupD, ix_lstD, ix_fzD, at_lit0, at_lit1, at_lit2, at_lit3, len_fz, len_lst, len_tup, List.map_cons, List.map_nil, List.length_cons, List.length_nil, List.getElem?_cons_zero, List.getElem?_cons_succ, List.set_cons_zero, List.set_cons_succ, List.cons_append, List.nil_append, List.replicate_succ, List.replicate_zero, Nat.reduceSub, Nat.reduceAdd, Nat.reduceLeDiff, if_true, if_false, Bool.false_eq_true, Bool.true_eq_false, Bool.not_true, Bool.not_false, Option.bind_some, Option.map_some, Nat.zero_add, ite_true, ite_false, Int.cast_ofNat_Int, Int.natCast_zero, Int.natCast_one, Int.reduceLT, Int.reduceLE, Int.reduceEq, Int.reduceAdd, Int.reduceSub, Int.reduceNeg, decide_true, decide_false, true_and, and_true, le_size, add_ll, add_tt, tuple_lst, tuple_tup, list_tup, list_lst, sl_tup, sl_lst, ii_non_int, ii_non_bool, ii_non_str, ii_non_tuple, ii_non_list, ii_non_dict, ii_bl_int, ii_bl_bool, ii_bl_str, ii_bl_tuple, ii_bl_list, ii_bl_dict, ii_int_int, ii_int_bool, ii_int_str, ii_int_tuple, ii_int_list, ii_int_dict, ii_str_int, ii_str_bool, ii_str_str, ii_str_tuple, ii_str_list, ii_str_dict, ii_tup_int, ii_tup_bool, ii_tup_str, ii_tup_tuple, ii_tup_list, ii_tup_dict, ii_lst_int, ii_lst_bool, ii_lst_str, ii_lst_tuple, ii_lst_list, ii_lst_dict, ii_fz_int, ii_fz_bool, ii_fz_str, ii_fz_tuple, ii_fz_list, ii_fz_dict, $ls,*] $l:location)
  | `(tactic| simp_arith $l:location) => `(tactic| simp only [wps, w_C, w_Var, k_Var, w_Bin, k_Bin1, k_Bin2, w_Tst, k_B, w_Chain, k_Ch1, k_Ch2, k_Ch3t, k_Ch3f, k_Ch4, w_And, w_Or, w_Not, k_Andt, k_Andf, k_Ort, k_Orf, k_Not, w_bAnd, w_bOr, w_bNot, w_bYes, k_bAndt, k_bAndf, k_bOrt, k_bOrf, k_bNot, w_dIf, k_dIft, k_dIff, w_aNil, w_aCons, k_Cons1, k_Cons2, w_Tup, w_Lst, w_Cell, k_Tup, k_Lst, k_Cell, w_Call, k_Call, w_CallF, k_CallF, w_CallN, k_CallN, k_New, k_AddN1, w_Un, k_Un, w_Sl, k_Sl1, k_Sl2, k_Sl3, w_No, w_So, k_So, w_iSeq, k_Items, w_Range1, w_Range2, k_Rng1, k_Rng2, w_iEnum, k_Enum, w_Comp, k_Comp, k_AsL, w_TupRg, w_LstRg, k_TupRg, k_LstRg, w_Rev, k_Rev, rev_tup, rev_lst, k_Di1, k_PT1, k_PT2, w_Nil, w_Nop, w_Fl, w_Seq, k_Seqn, k_Seqr, k_Seqb, k_Seqc, w_Expr, k_Drop, w_Ret, k_Ret, w_Set, k_Set, w_Asg, k_Asg1, k_Nx, w_If, k_Ift, k_Iff, w_For, k_For, k_Put1, k_Put2, w_Fun, w_Fun0, k_Funn, k_Funr, w_newK, w_newT, asB_bl, gN, gTupD, gsCons, gsNil, wipeE, itemsOf, seqItems, len_str, add_ii, sub_ii, neg_i, lt_ii, le_ii, gt_ii, ge_ii, eq_ii, ne_ii, eq_ss, ne_ss, isnot_bb, is_bb, is_non, isnot_non, isNonD, ix_tupD, ix_lstD, ix_fzD, at_lit0, at_lit1, at_lit2, at_lit3, len_fz, len_lst, len_tup, List.map_cons, List.map_nil, List.length_cons, List.length_nil, List.getElem?_cons_zero, List.getElem?_cons_succ, List.set_cons_zero, List.set_cons_succ, List.cons_append, List.nil_append, List.replicate_succ, List.replicate_zero, Nat.reduceSub, Nat.reduceAdd, Nat.reduceLeDiff, if_true, if_false, Bool.false_eq_true, Bool.true_eq_false, Bool.not_true, Bool.not_false, Option.bind_some, Option.map_some, Nat.zero_add, ite_true, ite_false, Int.cast_ofNat_Int, Int.natCast_zero, Int.natCast_one, Int.reduceLT, Int.reduceLE, Int.reduceEq, Int.reduceAdd, Int.reduceSub, Int.reduceNeg, decide_true, decide_false, true_and, and_true, le_size, add_ll, add_tt, tuple_lst, tuple_tup, list_tup, list_lst, sl_tup, sl_lst, ii_non_int, ii_non_bool, ii_non_str, ii_non_tuple, ii_non_list, ii_non_dict, ii_bl_int, ii_bl_bool, ii_bl_str, ii_bl_tuple, ii_bl_list, ii_bl_dict, ii_int_int, ii_int_bool, ii_int_str, ii_int_tuple, ii_int_list, ii_int_dict, ii_str_int, ii_str_bool, ii_str_str, ii_str_tuple, ii_str_list, ii_str_dict, ii_tup_int, ii_tup_bool, ii_tup_str, ii_tup_tuple, ii_tup_list, ii_tup_dict, ii_lst_int, ii_lst_bool, ii_lst_str, ii_lst_tuple, ii_lst_list, ii_lst_dict, ii_fz_int, ii_fz_bool, ii_fz_str, ii_fz_tuple, ii_fz_list, ii_fz_dict] $l:location)
/-! ### the deck -/
def deckC (ns : List Int) (p q : Int) : Cell := .lst [.fz (ns.map D.int), .int p, .int q]
namespace G
theorem ints_of_all {P : Int → Prop} : ∀ ys : List D, (∀ y ∈ ys, ∃ c, P c ∧ y = .int c) → ∃ cs : List Int, ys = cs.map D.int ∧ ∀ c ∈ cs, P c
  | [], _ => ⟨[], rfl, fun _ h => by cases h⟩
  | y :: ys, h => by
    obtain ⟨c, hc, e⟩ := h y List.mem_cons_self
    obtain ⟨cs, e2, h2⟩ := ints_of_all ys fun y hy => h y (List.mem_cons_of_mem _ hy)
    refine ⟨c :: cs, by rw [e, e2]; rfl, fun z hz => ?_⟩
    rcases List.mem_cons.mp hz with q | q
    · rw [q]; exact hc
    · exact h2 z q
theorem rng1_int {j : Int} (h0 : 0 ≤ j) (h : j < 2 ^ 62) : rng1 [.int j] = some (rngL 0 j.toNat) := by
  unfold rng1
  dsimp only
  rw [if_pos]
  unfold in62
  rw [Bool.and_eq_true, decide_eq_true_eq, decide_eq_true_eq]
  omega
/-- a deck at n; what stays but it -/
def DK (ns : List Int) (n : Nat) (S : Sto) : Prop := ∃ p q, 0 ≤ p ∧ 0 ≤ q ∧ S[n]? = some (deckC ns p q)
def Kp (n : Nat) (S S' : Sto) : Prop := ∀ j c, j ≠ n → S[j]? = some c → S'[j]? = some c
theorem Kp.refl (n : Nat) (S : Sto) : Kp n S S := fun _ _ _ h => h
theorem Kp.trans {n : Nat} {S S1 S2 : Sto} (h : Kp n S S1) (k : Kp n S1 S2) : Kp n S S2 := fun j c hj e => k j c hj (h j c hj e)
theorem Kp.app (n : Nat) (S : Sto) (c : Cell) : Kp n S (S ++ [c]) := fun j d _ e => by
  rw [List.getElem?_append_left (List.getElem?_eq_some_iff.mp e).1]
  exact e
theorem DK.app {ns : List Int} {n : Nat} {S : Sto} (h : DK ns n S) (c : Cell) : DK ns n (S ++ [c]) := by
  obtain ⟨p, q, h1, h2, h3⟩ := h
  exact ⟨p, q, h1, h2, by rw [List.getElem?_append_left (List.getElem?_eq_some_iff.mp h3).1]; exact h3⟩
theorem DK.set {ns : List Int} {n m : Nat} {S : Sto} (h : DK ns n S) (c : Cell) (hm : m ≠ n) : DK ns n (S.set m c) := by
  obtain ⟨p, q, h1, h2, h3⟩ := h
  exact ⟨p, q, h1, h2, by rw [List.getElem?_set_ne hm]; exact h3⟩
/-- .. the deck and what it leaves -/
structure Dr (ns : List Int) (m : Nat) (S S' : Sto) : Prop where
  dk : DK ns m S'
  kp : Kp m S S'
  len : S.length ≤ S'.length
theorem Dr.trans {ns : List Int} {m : Nat} {S S1 S2 : Sto} (h : Dr ns m S S1) (k : Dr ns m S1 S2) : Dr ns m S S2 := ⟨k.dk, h.kp.trans k.kp, Nat.le_trans h.len k.len⟩
theorem Dr.refl {ns : List Int} {m : Nat} {S : Sto} (h : DK ns m S) : Dr ns m S S := ⟨h, Kp.refl _ _, Nat.le_refl _⟩
theorem DK.lt {ns : List Int} {m : Nat} {S : Sto} (h : DK ns m S) : m < S.length := by
  obtain ⟨p, q, _, _, e⟩ := h
  exact (List.getElem?_eq_some_iff.mp e).1
theorem Dr.app {ns : List Int} {m : Nat} {S S' : Sto} (h : Dr ns m S S') (c : Cell) : Dr ns m S (S' ++ [c]) := ⟨h.dk.app c, h.kp.trans (Kp.app _ _ _), by rw [List.length_append]; exact Nat.le_trans h.len (Nat.le_add_right _ _)⟩
theorem Dr.put {ns : List Int} {m q : Nat} {S S' : Sto} (h : Dr ns m S S') (c : Cell) (hm : q ≠ m) (hq : S.length ≤ q) : Dr ns m S (S'.set q c) := by
  refine ⟨h.dk.set c hm, fun j d hj e => ?_, by rw [List.length_set]; exact h.len⟩
  have hl := (List.getElem?_eq_some_iff.mp e).1
  rw [List.getElem?_set_ne (by omega)]
  exact h.kp j d hj e
theorem ltL_ints (k : Nat) : ∀ ns : List Int, ltL k (ns.map D.int) = true
  | [] => rfl
  | n :: ns => by
    show (true && ltL k (ns.map D.int)) = true
    rw [ltL_ints k ns]
    rfl
theorem Dr.frz {ns : List Int} {m : Nat} {S S' : Sto} (hS : m < S.length) (h : Dr ns m S S') : ∀ j c, j < S.length → S'[j]? = some c → S[j]? = some c ∨ ltC S.length c = true := fun j c hj e => by
  by_cases z : j = m
  · subst z
    obtain ⟨p, q, _, _, e2⟩ := h.dk
    rw [e2] at e
    cases e
    refine .inr ?_
    show (ltL S.length (ns.map D.int) && _) = true
    rw [ltL_ints]
    rfl
  · have e2 := h.kp j _ z (List.getElem?_eq_getElem hj)
    rw [e2] at e
    exact .inl (by rw [List.getElem?_eq_getElem hj]; exact e)
theorem Dr.cut {ns : List Int} {m : Nat} {S S' : Sto} (hS : m < S.length) (h : Dr ns m S S') : Dr ns m S (S'.take S.length) := by
  obtain ⟨p, q, h1, h2, h3⟩ := h.dk
  have hl := h.len
  refine ⟨⟨p, q, h1, h2, ?_⟩, fun j c hj e => ?_, by rw [List.length_take]; omega⟩
  · rw [List.getElem?_take, if_pos hS]; exact h3
  · have hj2 := (List.getElem?_eq_some_iff.mp e).1
    rw [List.getElem?_take, if_pos hj2]
    exact h.kp j c hj e
theorem frz_lst {S S' : Sto} {q : Nat} {ds : List D} (hq : S.length ≤ q) (h : S'[q]? = some (.lst ds)) (hl : ltL 0 ds = true) : mapD (rsv S.length S' 64) (.ref q) = some (.lst ds) := by
  show rsv S.length S' 64 q = _
  unfold rsv
  rw [if_neg (by omega), h]
  dsimp only
  rw [mapL_id ds hl]
  rfl
theorem rng_succ (lo : Int) (k : Nat) : rngL lo (k + 1) = .int lo :: rngL (lo + 1) k := by
  unfold rngL
  rw [List.range_succ_eq_map, List.map_cons, List.map_map]
  congr 1
  · rw [Int.natCast_zero, Int.add_zero]
  · refine List.map_congr_left fun a _ => ?_
    show D.int (lo + ((a + 1 : Nat) : Int)) = D.int (lo + 1 + (a : Int))
    rw [show lo + ((a + 1 : Nat) : Int) = lo + 1 + (a : Int) by omega]
theorem ints_each {Q : Int → Prop} {xs ys : List D} (a : All2 (fun (_ : D) (y : D) => ∃ c, Q c ∧ y = D.int c) xs ys) : ∃ cs : List Int, ys = cs.map D.int ∧ cs.length = xs.length ∧ ∀ c ∈ cs, Q c := by
  obtain ⟨cs, e, h⟩ := ints_of_all (P := Q) ys (a.right (p := fun y : D => ∃ c, Q c ∧ y = D.int c) fun _ _ h => h)
  refine ⟨cs, e, ?_, h⟩
  rw [a.length, e, List.length_map]
theorem add_LL {S : Sto} {x y : D} {a b : List D} (h1 : lstOf S x = some a) (h2 : lstOf S y = some b) (hl : a.length + b.length ≤ sizeLine) : oAdd S x y = some (.lst (a ++ b)) := by
  refine (orO_none ?_).trans (orO_some ?_)
  · cases x <;> first | rfl | cases h1
  · unfold oAddL
    rw [h1, h2]
    dsimp only
    rw [if_pos hl]

theorem ne_fz_nil (S : Sto) (ns : List Int) : oNe S (.fz (ns.map D.int)) (.lst []) = some (.bl (!decide (ns = []))) := by
  have e : oNe S (.fz (ns.map D.int)) (.lst []) = oEqD true S (.lst (ns.map D.int)) (.lst []) := rfl
  rw [e, eqD_pl true (show plD 64 (D.lst (ns.map D.int)) = true from plL_ints 63 ns) rfl, Bool.true_xor]
  congr 2
  rw [decide_eq_decide.mpr (show D.lst (ns.map D.int) = .lst [] ↔ ns = [] from ⟨fun h => by injection h with h; exact List.map_eq_nil_iff.mp h, fun h => by rw [h]; rfl⟩)]
theorem spread_wp {cell place : Int} {S : Sto} {P : D → Sto → Prop} (hp : 0 ≤ place) (k : ∀ x, 0 ≤ x → P (.int x) S) : Wp (f__law_b_spread [.int cell, .int place] S) P := by
  have m0 : (0 : Int) < 2147483647 := by decide
  have m1 : (0 : Int) < 2147483629 := by decide
  have m2 : (0 : Int) < 2147483587 := by decide
  have m3 : (0 : Int) < 2147483563 := by decide
  have pw : oPow S (.int 10) (.int 18) = some (.int 1000000000000000000) := rfl
  obtain ⟨one, h1⟩ : ∃ one, one = (cell % 2147483647 * 16807 + place * 62089911 + 12345) % 2147483629 := ⟨_, rfl⟩
  obtain ⟨two, h2⟩ : ∃ two, two = (one * one + 7919 * place + 1) % 2147483587 := ⟨_, rfl⟩
  obtain ⟨more, h3⟩ : ∃ more, more = (two * two + 40014 * two + place) % 2147483563 := ⟨_, rfl⟩
  have b1 : 0 ≤ one := by rw [h1]; exact Int.emod_nonneg _ (by decide)
  have c1 : one < 2147483629 := by rw [h1]; exact Int.emod_lt_of_pos _ m1
  have b2 : 0 ≤ two := by rw [h2]; exact Int.emod_nonneg _ (by decide)
  have c2 : two < 2147483587 := by rw [h2]; exact Int.emod_lt_of_pos _ m2
  have b3 : 0 ≤ more := by rw [h3]; exact Int.emod_nonneg _ (by decide)
  have x1 : ∀ z, oMul S (.int z) (.int 16807) = some (.int (z * 16807)) := fun z => mul_ii S (.inr (by decide))
  have x2 : oMul S (.int place) (.int 62089911) = some (.int (place * 62089911)) := mul_ii S (.inr (by decide))
  have x3 : oMul S (.int one) (.int one) = some (.int (one * one)) := mul_ii S (.inr (by omega))
  have x4 : oMul S (.int 7919) (.int place) = some (.int (7919 * place)) := mul_ii S (.inl (by decide))
  have x6 : oMul S (.int two) (.int two) = some (.int (two * two)) := mul_ii S (.inr (by omega))
  have x7 : oMul S (.int 40014) (.int two) = some (.int (40014 * two)) := mul_ii S (.inl (by decide))
  have x8 : oMul S (.int two) (.int 2147483563) = some (.int (two * 2147483563)) := mul_ii S (.inr (by decide))
  unfold f__law_b_spread d__law_b_spread
  simp_arith [pw]
  refine k_Ifd (fun hc => ?_) fun hc => ?_
  · simp_arith
    exact k _ (by omega)
  · simp_arith [mod_ii S m0, mod_ii S m1, x1, x2, ← h1, x3, x4, mod_ii S m2, ← h2, x6, x7, mod_ii S m3, ← h3, x8]
    exact k _ (by omega)
theorem digit_wp {ns : List Int} {n : Nat} {S : Sto} {many : Int} {P : D → Sto → Prop} (h : DK ns n S) (hm : 1 ≤ many) (hm2 : many < 2 ^ 80) (k : ∀ v S', 0 ≤ v → v < many → Dr ns n S S' → S'.length = S.length → P (.int v) S') : Wp (f__law_b_digit [.ref n, .int many] S) P := by
  obtain ⟨p, q, hp, hq, hS⟩ := h
  have m6 : (0 : Int) < 1000000 := by decide
  have pw : ∀ T, oPow T (.int 10) (.int 6) = some (.int 1000000) := fun _ => rfl
  have fin : ∀ p' q', 0 ≤ p' → 0 ≤ q' → P (.int (q' % many)) (S.set n (deckC ns p' (q' / many))) := fun p' q' h1 h2 =>
    k _ _ (Int.emod_nonneg _ (by omega)) (Int.emod_lt_of_pos _ (by omega)) ⟨⟨p', q' / many, h1, Int.ediv_nonneg h2 (by omega), set_get hS⟩, fun j c hj e2 => by rw [List.getElem?_set_ne (Ne.symm hj)]; exact e2, by rw [List.length_set]; exact Nat.le_refl _⟩ (List.length_set ..)
  have md : ∀ (T : Sto) (x : Int), oMod T (.int x) (.int many) = some (.int (x % many)) := fun T x => mod_ii T (by omega)
  have dv : ∀ (T : Sto) (x : Int), oDiv T (.int x) (.int many) = some (.int (x / many)) := fun T x => div_ii T (by omega) hm2
  have s1 : ∀ a, (S.set n (deckC ns a q))[n]? = some (.lst [.fz (ns.map D.int), .int a, .int q]) := fun a => set_get hS
  have s2 : ∀ a x, ((S.set n (deckC ns a q)).set n (deckC ns a x))[n]? = some (.lst [.fz (ns.map D.int), .int a, .int x]) := fun a x => set_get (s1 a)
  have hlen : (ns.map D.int).length = ns.length := List.length_map _
  unfold f__law_b_digit d__law_b_digit
  simp_arith [ix_refD hS]
  refine k_Ifd (fun hc => ?_) fun hc => ?_
  · simp_arith [ix_refD hS, hlen]
    have tail : ∀ c : Int, Wp ((sSeq (sPutL (dVar 0) (dC (.int 1)) (dBin oAdd (dVar 2) (dC (.int 1))))
  (sPutL (dVar 0) (dC (.int 2)) (dCallF f__law_b_spread (aCons (dVar 3) (aCons (dVar 2) aNil))))) [some (.ref n), some (.int many), some (.int p), some (.int c), none] S) (kSeq ((sSeq (sSet 4 (dBin oMod (dBin oIx (dVar 0) (dC (.int 2))) (dVar 1)))
  (sSeq (sPutL (dVar 0) (dC (.int 2)) (dBin oDiv (dBin oIx (dVar 0) (dC (.int 2))) (dVar 1)))
  (sRet (dVar 4))))) (kFun P)) := fun c => by
      simp_arith
      refine w_PutL ?_
      simp_arith
      refine ⟨n, [.fz (ns.map D.int), .int p, .int q], 1, 1, rfl, hS, rfl, rfl, ?_⟩
      simp_arith
      refine w_PutL ?_
      simp_arith
      refine spread_wp hp fun x hx => ?_
      simp_arith
      refine ⟨n, [.fz (ns.map D.int), .int (p + 1), .int q], 2, 2, rfl, s1 _, rfl, rfl, ?_⟩
      have g2 := s2 (p + 1) x
      simp_arith
      simp only [deckC] at g2
      simp_arith [ix_refD g2, md]
      refine w_PutL ?_
      simp_arith [ix_refD g2, dv]
      refine ⟨n, [.fz (ns.map D.int), .int (p + 1), .int x], 2, 2, rfl, g2, rfl, rfl, ?_⟩
      simp_arith
      have f := fin (p + 1) x (by omega) hx
      rw [set_set, set_set]
      exact f
    refine k_Ifd (fun h1 => ?_) fun h1 => ?_
    · have e : atI (ns.map D.int) p = some (.int (ns[p.toNat]'(by omega))) := at_nat hp (by rw [List.getElem?_map, List.getElem?_eq_getElem (by omega)]; rfl)
      have t := tail (ns[p.toNat]'(by omega))
      simp_arith at t
      simp_arith [ix_refD hS, e]
      exact t
    · simp_arith [ix_refD hS, ne_fz_nil]
      refine k_Ifn (fun h2 => ?_) fun h2 => ?_
      · have h3 : (0 : Int) < ns.length := by have := List.length_pos_iff.mpr h2; omega
        have hb : 0 ≤ p * 7 % ns.length := Int.emod_nonneg _ (by omega)
        have hb2 : p * 7 % ns.length < ns.length := Int.emod_lt_of_pos _ h3
        have e : atI (ns.map D.int) (p * 7 % ns.length) = some (.int (ns[(p * 7 % ns.length).toNat]'(by omega))) := at_nat hb (by rw [List.getElem?_map, List.getElem?_eq_getElem (by omega)]; rfl)
        have t := tail (ns[(p * 7 % ns.length).toNat]'(by omega) % 1000000 + p * 1000003)
        simp_arith at t
        simp_arith [ix_refD hS, hlen, mul_ii S (i := p) (j := 7) (.inr (by decide)), mod_ii S h3, e, pw, mod_ii S m6, mul_ii S (i := p) (j := 1000003) (.inr (by decide))]
        exact t
      · have t := tail p
        simp_arith at t
        simp_arith
        exact t
  · simp_arith [ix_refD hS, md]
    refine w_PutL ?_
    simp_arith [ix_refD hS, dv]
    refine ⟨n, [.fz (ns.map D.int), .int p, .int q], 2, 2, rfl, hS, rfl, rfl, ?_⟩
    simp_arith
    exact fin p q hp hq
/-- the end of the deck ends the loop -/
theorem brk_deck {ns xs : List Int} {env : Ev} {S : Sto} {g : DS} {PF : Fl × Ev → Sto → Prop} {j : Nat} {i : Int} (h0 : env[0]? = some (some (.fz (xs.map D.int)))) (h1 : env[1]? = some (some (.ref 0))) (h2 : env[j]? = some (some (.int i))) (hS : DK ns 0 S) (hb : PF (.bk, env) S) (hg : Wp (g env S) PF) :
    Wp (sSeq (sIf (bAnd (dTst (dBin oGt (dVar j) (dC (.int 1)))) (dTst (dBin oGe (dBin oIx (dVar 1) (dC (.int 1))) (dCall oLen (aCons (dVar 0) aNil))))) (sFl .bk) sNil) g env S) PF := by
  obtain ⟨p, q, hp, hq, hS⟩ := hS
  have i1 : oIx S (.ref 0) (.int 1) = some (.int p) := by rw [ix_refD hS]; rfl
  simp only [w_Seq, w_If, w_bAnd, w_Tst, w_Bin, w_Var, w_C, k_Bin1, k_Bin2, k_B, k_Var, gt_ii, wps, h0, h1, h2, asB_bl]
  refine k_bAndc (fun c1 => ?_) fun c1 => ?_
  · simp only [w_Tst, w_Bin, w_Var, w_C, k_Bin1, k_Bin2, k_B, k_Var, ge_ii, wps, h0, h1, w_Call, w_aCons, w_aNil, k_Cons1, k_Cons2, k_Call, len_fz, i1]
    refine k_Ifd (fun c2 => ?_) fun c2 => ?_
    · simp only [w_Fl, k_Seqb]; exact hb
    · simp only [w_Nil, k_Seqn]; exact hg
  · simp only [k_Iff, w_Nil, k_Seqn]; exact hg
theorem kbAnd_mid {env : Ev} {S : Sto} {tb : DB} {K : Bool → Sto → Prop} {c : Bool} (R : Bool → Sto → Prop) (h1 : c = true → Wp (tb env S) R) (h2 : c = false → R false S) (hK : ∀ b S', R b S' → K b S') : kbAnd tb env K c S := by
  refine k_bAndc (fun h => (h1 h).mono fun b S' q => hK b S' q) fun h => hK _ _ (h2 h)
end G

end DL
end L2

set_option Elab.async false
set_option linter.all false
set_option maxRecDepth 100000
namespace L2
namespace DL
open PySem PySem.Spec PyProof.Rows
local macro_rules
  | `(tactic| simp_arith [$ls,*]) => `(tactic| simp only [wps, w_C, w_Var, k_Var, w_Bin, k_Bin1, k_Bin2, w_Tst, k_B, w_Chain, k_Ch1, k_Ch2, k_Ch3t, k_Ch3f, k_Ch4, w_And, w_Or, w_Not, k_Andt, k_Andf, k_Ort, k_Orf, k_Not, w_bAnd, w_bOr, w_bNot, w_bYes, k_bAndt, k_bAndf, k_bOrt, k_bOrf, k_bNot, w_dIf, k_dIft, k_dIff, w_aNil, w_aCons, k_Cons1, k_Cons2, w_Tup, w_Lst, w_Cell, k_Tup, k_Lst, k_Cell, w_Call, k_Call, w_CallF, k_CallF, w_CallN, k_CallN, k_New, k_AddN1, w_Un, k_Un, w_Sl, k_Sl1, k_Sl2, k_Sl3, w_No, w_So, k_So, w_iSeq, k_Items, w_Range1, w_Range2, k_Rng1, k_Rng2, w_iEnum, k_Enum, w_Comp, k_Comp, k_AsL, w_TupRg, w_LstRg, k_TupRg, k_LstRg, w_Rev, k_Rev, rev_tup, rev_lst, k_Di1, k_PT1, k_PT2, w_Nil, w_Nop, w_Fl, w_Seq, k_Seqn, k_Seqr, k_Seqb, k_Seqc, w_Expr, k_Drop, w_Ret, k_Ret, w_Set, k_Set, w_Asg, k_Asg1, k_Nx, w_If, k_Ift, k_Iff, w_For, k_For, k_Put1, k_Put2, w_Fun, w_Fun0, k_Funn, k_Funr, w_newK, w_newT, asB_bl, gN, gTupD, gsCons, gsNil, wipeE, itemsOf, seqItems, len_str, add_ii, sub_ii, neg_i, lt_ii, le_ii, gt_ii, ge_ii, eq_ii, ne_ii, eq_ss, ne_ss, isnot_bb, is_bb, is_non, isnot_non, isNonD, ix_tupD, ix_lstD, ix_fzD, at_lit0, at_lit1, at_lit2, at_lit3, len_fz, len_lst, len_tup, List.map_cons, List.map_nil, List.length_cons, List.length_nil, List.getElem?_cons_zero, List.getElem?_cons_succ, List.set_cons_zero, List.set_cons_succ, List.cons_append, List.nil_append, List.replicate_succ, List.replicate_zero, Nat.reduceSub, Nat.reduceAdd, Nat.reduceLeDiff, if_true, if_false, Bool.false_eq_true, Bool.true_eq_false, Bool.not_true, Bool.not_false, Option.bind_some, Option.map_some, Nat.zero_add, ite_true, ite_false, Int.cast_ofNat_Int, Int.natCast_zero, Int.natCast_one, Int.reduceLT, Int.reduceLE, Int.reduceEq, Int.reduceAdd, Int.reduceSub, Int.reduceNeg, decide_true, decide_false, true_and, and_true, le_size, add_ll, add_tt, tuple_lst, tuple_tup, list_tup, list_lst, sl_tup, sl_lst, ii_non_int, ii_non_bool, ii_non_str, ii_non_tuple, ii_non_list, ii_non_dict, ii_bl_int, ii_bl_bool, ii_bl_str, ii_bl_tuple, ii_bl_list, ii_bl_dict, ii_int_int, ii_int_bool, ii_int_str, ii_int_tuple, ii_int_list, ii_int_dict, ii_str_int, ii_str_bool, ii_str_str, ii_str_tuple, ii_str_list, ii_str_dict, ii_tup_int, ii_tup_bool, ii_tup_str, ii_tup_tuple, ii_tup_list, ii_tup_dict, ii_lst_int, ii_lst_bool, ii_lst_str, ii_lst_tuple, ii_lst_list, ii_lst_dict, ii_fz_int, ii_fz_bool, ii_fz_str, ii_fz_tuple, ii_fz_list, ii_fz_dict, $ls,*])
  | `(tactic| simp_arith) => `(tactic| simp only [wps, w_C, w_Var, k_Var, w_Bin, k_Bin1, k_Bin2, w_Tst, k_B, w_Chain, k_Ch1, k_Ch2, k_Ch3t, k_Ch3f, k_Ch4, w_And, w_Or, w_Not, k_Andt, k_Andf, k_Ort, k_Orf, k_Not, w_bAnd, w_bOr, w_bNot, w_bYes, k_bAndt, k_bAndf, k_bOrt, k_bOrf, k_bNot, w_dIf, k_dIft, k_dIff, w_aNil, w_aCons, k_Cons1, k_Cons2, w_Tup, w_Lst, w_Cell, k_Tup, k_Lst, k_Cell, w_Call, k_Call, w_CallF, k_CallF, w_CallN, k_CallN, k_New, k_AddN1, w_Un, k_Un, w_Sl, k_Sl1, k_Sl2, k_Sl3, w_No, w_So, k_So, w_iSeq, k_Items, w_Range1, w_Range2, k_Rng1, k_Rng2, w_iEnum, k_Enum, w_Comp, k_Comp, k_AsL, w_TupRg, w_LstRg, k_TupRg, k_LstRg, w_Rev, k_Rev, rev_tup, rev_lst, k_Di1, k_PT1, k_PT2, w_Nil, w_Nop, w_Fl, w_Seq, k_Seqn, k_Seqr, k_Seqb, k_Seqc, w_Expr, k_Drop, w_Ret, k_Ret, w_Set, k_Set, w_Asg, k_Asg1, k_Nx, w_If, k_Ift, k_Iff, w_For, k_For, k_Put1, k_Put2, w_Fun, w_Fun0, k_Funn, k_Funr, w_newK, w_newT, asB_bl, gN, gTupD, gsCons, gsNil, wipeE, itemsOf, seqItems, len_str, add_ii, sub_ii, neg_i, lt_ii, le_ii, gt_ii, ge_ii, eq_ii, ne_ii, eq_ss, ne_ss, isnot_bb, is_bb, is_non, isnot_non, isNonD, ix_tupD, ix_lstD, ix_fzD, at_lit0, at_lit1, at_lit2, at_lit3, len_fz, len_lst, len_tup, List.map_cons, List.map_nil, List.length_cons, List.length_nil, List.getElem?_cons_zero, List.getElem?_cons_succ, List.set_cons_zero, List.set_cons_succ, List.cons_append, List.nil_append, List.replicate_succ, List.replicate_zero, Nat.reduceSub, Nat.reduceAdd, Nat.reduceLeDiff, if_true, if_false, Bool.false_eq_true, Bool.true_eq_false, Bool.not_true, Bool.not_false, Option.bind_some, Option.map_some, Nat.zero_add, ite_true, ite_false, Int.cast_ofNat_Int, Int.natCast_zero, Int.natCast_one, Int.reduceLT, Int.reduceLE, Int.reduceEq, Int.reduceAdd, Int.reduceSub, Int.reduceNeg, decide_true, decide_false, true_and, and_true, le_size, add_ll, add_tt, tuple_lst, tuple_tup, list_tup, list_lst, sl_tup, sl_lst, ii_non_int, ii_non_bool, ii_non_str, ii_non_tuple, ii_non_list, ii_non_dict, ii_bl_int, ii_bl_bool, ii_bl_str, ii_bl_tuple, ii_bl_list, ii_bl_dict, ii_int_int, ii_int_bool, ii_int_str, ii_int_tuple, ii_int_list, ii_int_dict, ii_str_int, ii_str_bool, ii_str_str, ii_str_tuple, ii_str_list, ii_str_dict, ii_tup_int, ii_tup_bool, ii_tup_str, ii_tup_tuple, ii_tup_list, ii_tup_dict, ii_lst_int, ii_lst_bool, ii_lst_str, ii_lst_tuple, ii_lst_list, ii_lst_dict, ii_fz_int, ii_fz_bool, ii_fz_str, ii_fz_tuple, ii_fz_list, ii_fz_dict])
  | `(tactic| simp_arith [$ls,*] $l:location) => `(tactic| simp only [wps, w_C, w_Var, k_Var, w_Bin, k_Bin1, k_Bin2, w_Tst, k_B, w_Chain, k_Ch1, k_Ch2, k_Ch3t, k_Ch3f, k_Ch4, w_And, w_Or, w_Not, k_Andt, k_Andf, k_Ort, k_Orf, k_Not, w_bAnd, w_bOr, w_bNot, w_bYes, k_bAndt, k_bAndf, k_bOrt, k_bOrf, k_bNot, w_dIf, k_dIft, k_dIff, w_aNil, w_aCons, k_Cons1, k_Cons2, w_Tup, w_Lst, w_Cell, k_Tup, k_Lst, k_Cell, w_Call, k_Call, w_CallF, k_CallF, w_CallN, k_CallN, k_New, k_AddN1, w_Un, k_Un, w_Sl, k_Sl1, k_Sl2, k_Sl3, w_No, w_So, k_So, w_iSeq, k_Items, w_Range1, w_Range2, k_Rng1, k_Rng2, w_iEnum, k_Enum, w_Comp, k_Comp, k_AsL, w_TupRg, w_LstRg, k_TupRg, k_LstRg, w_Rev, k_Rev, rev_tup, rev_lst, k_Di1, k_PT1, k_PT2, w_Nil, w_Nop, w_Fl, w_Seq, k_Seqn, k_Seqr, k_Seqb, k_Seqc, w_Expr, k_Drop, w_Ret, k_Ret, w_Set, k_Set, w_Asg, k_Asg1, k_Nx, w_If, k_Ift, k_Iff, w_For, k_For, k_Put1, k_Put2, w_Fun, w_Fun0, k_Funn, k_Funr, w_newK, w_newT, asB_bl, gN, gTupD, gsCons, gsNil, wipeE, itemsOf, seqItems, len_str, add_ii, sub_ii, neg_i, lt_ii, le_ii, gt_ii, ge_ii, eq_ii, ne_ii, eq_ss, ne_ss, isnot_bb, is_bb, is_non, isnot_non, isNonD, ix_tupD, ix_lstD, ix_fzD, at_lit0, at_lit1, at_lit2, at_lit3, len_fz, len_lst, len_tup, List.map_cons, List.map_nil, List.length_cons, List.length_nil, List.getElem?_cons_zero, List.getElem?_cons_succ, List.set_cons_zero, List.set_cons_succ, List.cons_append, List.nil_append, List.replicate_succ, List.replicate_zero, Nat.reduceSub, Nat.reduceAdd, Nat.reduceLeDiff, if_true, if_false, Bool.false_eq_true, Bool.true_eq_false, Bool.not_true, Bool.not_false, Option.bind_some, Option.map_some, Nat.zero_add, ite_true, ite_false, Int.cast_ofNat_Int, Int.natCast_zero, Int.natCast_one, Int.reduceLT, Int.reduceLE, Int.reduceEq, Int.reduceAdd, Int.reduceSub, Int.reduceNeg, decide_true, decide_false, true_and, and_true, le_size, add_ll, add_tt, tuple_lst, tuple_tup, list_tup, list_lst, sl_tup, sl_lst, ii_non_int, ii_non_bool, ii_non_str, ii_non_tuple, ii_non_list, ii_non_dict, ii_bl_int, ii_bl_bool, ii_bl_str, ii_bl_tuple, ii_bl_list, ii_bl_dict, ii_int_int, ii_int_bool, ii_int_str, ii_int_tuple, ii_int_list, ii_int_dict, ii_str_int, ii_str_bool, ii_str_str, ii_str_tuple, ii_str_list, ii_str_dict, ii_tup_int, ii_tup_bool, ii_tup_str, ii_tup_tuple, ii_tup_list, ii_tup_dict, ii_lst_int, ii_lst_bool, ii_lst_str, ii_lst_tuple, ii_lst_list, ii_lst_dict, ii_fz_int, ii_fz_bool, ii_fz_str, ii_fz_tuple, ii_fz_list, ii_fz_dict, $ls,*] $l:location)
  | `(tactic| simp_arith $l:location) => `(tactic| simp only [wps, w_C, w_Var, k_Var, w_Bin, k_Bin1, k_Bin2, w_Tst, k_B, w_Chain, k_Ch1, k_Ch2, k_Ch3t, k_Ch3f, k_Ch4, w_And, w_Or, w_Not, k_Andt, k_Andf, k_Ort, k_Orf, k_Not, w_bAnd, w_bOr, w_bNot, w_bYes, k_bAndt, k_bAndf, k_bOrt, k_bOrf, k_bNot, w_dIf, k_dIft, k_dIff, w_aNil, w_aCons, k_Cons1, k_Cons2, w_Tup, w_Lst, w_Cell, k_Tup, k_Lst, k_Cell, w_Call, k_Call, w_CallF, k_CallF, w_CallN, k_CallN, k_New, k_AddN1, w_Un, k_Un, w_Sl, k_Sl1, k_Sl2, k_Sl3, w_No, w_So, k_So, w_iSeq, k_Items, w_Range1, w_Range2, k_Rng1, k_Rng2, w_iEnum, k_Enum, w_Comp, k_Comp, k_AsL, w_TupRg, w_LstRg, k_TupRg, k_LstRg, w_Rev, k_Rev, rev_tup, rev_lst, k_Di1, k_PT1, k_PT2, w_Nil, w_Nop, w_Fl, w_Seq, k_Seqn, k_Seqr, k_Seqb, k_Seqc, w_Expr, k_Drop, w_Ret, k_Ret, w_Set, k_Set, w_Asg, k_Asg1, k_Nx, w_If, k_Ift, k_Iff, w_For, k_For, k_Put1, k_Put2, w_Fun, w_Fun0, k_Funn, k_Funr, w_newK, w_newT, asB_bl, gN, gTupD, gsCons, gsNil, wipeE, itemsOf, seqItems, len_str, add_ii, sub_ii, neg_i, lt_ii, le_ii, gt_ii, ge_ii, eq_ii, ne_ii, eq_ss, ne_ss, isnot_bb, is_bb, is_non, isnot_non, isNonD, ix_tupD, ix_lstD, ix_fzD, at_lit0, at_lit1, at_lit2, at_lit3, len_fz, len_lst, len_tup, List.map_cons, List.map_nil, List.length_cons, List.length_nil, List.getElem?_cons_zero, List.getElem?_cons_succ, List.set_cons_zero, List.set_cons_succ, List.cons_append, List.nil_append, List.replicate_succ, List.replicate_zero, Nat.reduceSub, Nat.reduceAdd, Nat.reduceLeDiff, if_true, if_false, Bool.false_eq_true, Bool.true_eq_false, Bool.not_true, Bool.not_false, Option.bind_some, Option.map_some, Nat.zero_add, ite_true, ite_false, Int.cast_ofNat_Int, Int.natCast_zero, Int.natCast_one, Int.reduceLT, Int.reduceLE, Int.reduceEq, Int.reduceAdd, Int.reduceSub, Int.reduceNeg, decide_true, decide_false, true_and, and_true, le_size, add_ll, add_tt, tuple_lst, tuple_tup, list_tup, list_lst, sl_tup, sl_lst, ii_non_int, ii_non_bool, ii_non_str, ii_non_tuple, ii_non_list, ii_non_dict, ii_bl_int, ii_bl_bool, ii_bl_str, ii_bl_tuple, ii_bl_list, ii_bl_dict, ii_int_int, ii_int_bool, ii_int_str, ii_int_tuple, ii_int_list, ii_int_dict, ii_str_int, ii_str_bool, ii_str_str, ii_str_tuple, ii_str_list, ii_str_dict, ii_tup_int, ii_tup_bool, ii_tup_str, ii_tup_tuple, ii_tup_list, ii_tup_dict, ii_lst_int, ii_lst_bool, ii_lst_str, ii_lst_tuple, ii_lst_list, ii_lst_dict, ii_fz_int, ii_fz_bool, ii_fz_str, ii_fz_tuple, ii_fz_list, ii_fz_dict] $l:location)
namespace G
/-! ### drawing what houses are made of -/
def RowIs (n : Nat) (S : Sto) (x : D) (ds : List D) : Prop := x = .lst ds ∨ ∃ q, x = .ref q ∧ q ≠ n ∧ S[q]? = some (.lst ds)
theorem RowIs.list {n : Nat} {S : Sto} {x : D} {ds : List D} (h : RowIs n S x ds) : listOf S x = some ds := by
  rcases h with e | ⟨q, e, _, h⟩
  · subst e; rfl
  · subst e; exact list_ref h
theorem RowIs.kp {n : Nat} {S S' : Sto} {x : D} {ds : List D} (h : RowIs n S x ds) (k : Kp n S S') : RowIs n S' x ds := by
  rcases h with e | ⟨q, e, h1, h2⟩
  · exact .inl e
  · exact .inr ⟨q, e, h1, k q _ h1 h2⟩
theorem RowIs.len {n : Nat} {S : Sto} {x : D} {ds : List D} (h : RowIs n S x ds) : oLen S [x] = some (.int (ds.length : Int)) := by
  rcases h with e | ⟨q, e, h1, h2⟩
  · subst e; rfl
  · subst e
    show (listOf S (.ref q)).map _ = _
    rw [list_ref h2]
    rfl
theorem RowIs.ix {n : Nat} {S : Sto} {x : D} {ds : List D} (h : RowIs n S x ds) (i : Int) : oIx S x (.int i) = atI ds i := by
  rcases h with e | ⟨q, e, h1, h2⟩
  · subst e; exact ix_lstD ..
  · subst e; exact ix_refD h2
def memI (p : Nat × Str) : D := .tup [.int (p.1 : Int), .str p.2]
structure MemOk (w : Nat) (ms : Mem) : Prop where
  inc : ms.Pairwise fun p q => p.1 < q.1
  lt : ∀ p ∈ ms, p.1 < w
  md : ∀ p ∈ ms, p.2 ∈ MD
theorem MemOk.nil (w : Nat) : MemOk w [] := ⟨.nil, fun _ h => absurd h List.not_mem_nil, fun _ h => absurd h List.not_mem_nil⟩
theorem MemOk.up {w : Nat} {ms : Mem} (h : MemOk w ms) : MemOk (w + 1) ms := ⟨h.inc, fun p hp => Nat.lt_succ_of_lt (h.lt p hp), h.md⟩
theorem MemOk.snoc {w : Nat} {ms : Mem} {m : Str} (h : MemOk w ms) (hm : m ∈ MD) : MemOk (w + 1) (ms ++ [(w, m)]) := by
  refine ⟨List.pairwise_append.mpr ⟨h.inc, List.pairwise_singleton _ _, fun p hp q hq => ?_⟩, fun p hp => ?_, fun p hp => ?_⟩
  · rw [List.mem_singleton] at hq
    subst hq
    exact h.lt p hp
  · rcases List.mem_append.mp hp with q | q
    · exact Nat.lt_succ_of_lt (h.lt p q)
    · rw [List.mem_singleton] at q; subst q; exact Nat.lt_succ_self _
  · rcases List.mem_append.mp hp with q | q
    · exact h.md p q
    · rw [List.mem_singleton] at q; subst q; exact hm
theorem MemOk.nd {w : Nat} {ms : Mem} (h : MemOk w ms) : (ms.map (·.1)).Nodup := by
  refine List.pairwise_map.mpr (h.inc.imp fun q => ?_)
  omega
theorem memGo {w : Nat} : ∀ {ms : Mem} {last : Int}, ms.Pairwise (fun p q => p.1 < q.1) → (∀ p ∈ ms, p.1 < w) → (∀ p ∈ ms, p.2 ∈ MD) → (∀ p ∈ ms, last < (p.1 : Int)) → membersGo w last (ms.map memI) = true
  | [], _, _, _, _, _ => rfl
  | p :: ms, last, hi, hw, hm, hl => by
    obtain ⟨h1, h2⟩ := List.pairwise_cons.mp hi
    have a := hl p List.mem_cons_self
    have b := hw p List.mem_cons_self
    have c := hm p List.mem_cons_self
    show (memberB w last (memI p) && membersGo w (numOf (memI p)) (ms.map memI)) = true
    rw [memGo (last := numOf (memI p)) h2 (fun q hq => hw q (List.mem_cons_of_mem _ hq)) (fun q hq => hm q (List.mem_cons_of_mem _ hq)) fun q hq => ?_, Bool.and_true]
    · show (fromTo (last + 1) ((w : Int) - 1) (.int (p.1 : Int)) && decide (p.2 ∈ MD)) = true
      rw [ft_t' (by omega) (by omega), decide_eq_true c]
      rfl
    · have := h1 q hq
      show (p.1 : Int) < (q.1 : Int)
      omega
theorem MemOk.b {w : Nat} {ms : Mem} (h : MemOk w ms) : membersB w (memD ms) = true := memGo (last := -1) h.inc h.lt h.md fun p _ => by omega
theorem MemOk.len_le {w : Nat} {ms : Mem} (h : MemOk w ms) : ms.length ≤ w := by
  have h1 : (ms.map (·.1)).length ≤ (List.range w).length := List.Nodup.length_le_of_subset h.nd fun x hx => by
    obtain ⟨p, hp, e⟩ := List.mem_map.mp hx
    rw [List.mem_range, ← e]
    exact h.lt p hp
  rw [List.length_map, List.length_range] at h1
  exact h1
theorem tuple_ref {S : Sto} {n : Nat} {ds : List D} (h : S[n]? = some (.lst ds)) : oTuple S [.ref n] = some (.tup ds) := by
  show (listOf S (.ref n)).map D.tup = _
  rw [list_ref h]
  rfl

theorem some_wp {ns : List Int} {n : Nat} {S : Sto} {x : D} {ds : List D} {P : D → Sto → Prop} (h : DK ns n S) (hx : RowIs n S x ds) (h0 : ds ≠ []) (hl : ds.length ≤ 1000) (k : ∀ d ∈ ds, ∀ S', Dr ns n S S' → S'.length = S.length → P d S') : Wp (f__law_b_some [.ref n, x] S) P := by
  unfold f__law_b_some d__law_b_some
  simp_arith [hx.len]
  have := List.length_pos_iff.mpr h0
  refine digit_wp h (by omega) (by omega) fun v S' h1 h2 dr hl' => ?_
  have hv : v.toNat < ds.length := by omega
  have e : atI ds v = some ds[v.toNat] := at_nat h1 (List.getElem?_eq_getElem hv)
  simp_arith [(hx.kp dr.kp).ix, e]
  exact k _ (List.getElem_mem hv) S' dr hl'
theorem drawmem_wp {ns : List Int} {n : Nat} {S : Sto} {P : D → Sto → Prop} {w : Nat} (h : DK ns n S) (hw : w ≤ 100) (k : ∀ ms S', MemOk w ms → Dr ns n S S' → P (memD ms) S') : Wp (f__law_b_members [.ref n, .int (w : Int)] S) P := by
  unfold f__law_b_members d__law_b_members
  simp_arith [rng1_int (show (0 : Int) ≤ (w : Int) by omega) (by omega), Int.toNat_natCast]
  have hn := h.lt
  refine forGo_wp (fun rest env T => ∃ (a : Nat) (ms : Mem) (e3 e4 : Option D), a ≤ w ∧ rest = rngL (a : Int) (w - a) ∧ env = [some (.ref n), some (.int (w : Int)), some (.ref S.length), e3, e4] ∧ T[S.length]? = some (.lst (ms.map memI)) ∧ MemOk a ms ∧ Dr ns n S T) _ _ _
    ⟨0, [], none, none, Nat.zero_le _, rfl, rfl, app_at _ _, .nil _, (Dr.refl h).app _⟩ (fun d rest env T hI => ?_) fun env T hI => ?_
  · obtain ⟨a, ms, e3, e4, ha, er, e, hT, mo, dr⟩ := hI
    subst e
    have hlt : a < w := by
      refine Nat.lt_of_not_le fun q => ?_
      rw [show w - a = 0 by omega] at er
      cases er
    rw [show w - a = (w - (a + 1)) + 1 by omega, rng_succ] at er
    obtain ⟨ed, er2⟩ := List.cons.inj er
    subst ed
    refine ⟨_, rfl, ?_⟩
    simp_arith
    refine digit_wp dr.dk (by decide) (by decide) fun v T' h1 h2 dr' hl' => ?_
    simp_arith
    have hT' : T'[S.length]? = some (.lst (ms.map memI)) := dr'.kp _ _ (by omega) hT
    have ll := mo.len_le
    refine k_Ifd (fun c => ?_) fun c => ?_
    · obtain ⟨m, hm, em⟩ : ∃ m ∈ MD, atI [D.str "come", .str "go", .str "both", .str "both", .str "both"] (v - 1) = some (.str m) := by
        have : v = 1 ∨ v = 2 ∨ v = 3 ∨ v = 4 ∨ v = 5 := by omega
        rcases this with q | q | q | q | q <;> subst q
        · exact ⟨"come", by decide, rfl⟩
        · exact ⟨"go", by decide, rfl⟩
        · exact ⟨"both", by decide, rfl⟩
        · exact ⟨"both", by decide, rfl⟩
        · exact ⟨"both", by decide, rfl⟩
      simp_arith
      refine w_App ?_
      simp_arith
      refine k_App hT' ?_
      simp_arith [em]
      refine ⟨_, hT', by rw [List.length_map, sizeLine_eq]; omega, ?_⟩
      simp_arith
      refine ⟨a + 1, ms ++ [(a, m)], _, _, hlt, ?_, rfl, ?_, mo.snoc hm, (dr.trans dr').put _ (by omega) (Nat.le_refl _)⟩
      · rw [er2]
        rfl
      · rw [set_get hT', List.map_append]
        rfl
    · simp_arith
      exact ⟨a + 1, ms, _, _, hlt, er2, rfl, hT', mo.up, dr.trans dr'⟩
  · obtain ⟨a, ms, e3, e4, ha, er, e, hT, mo, dr⟩ := hI
    subst e
    have hae : a = w := by
      refine Nat.le_antisymm ha (Nat.le_of_not_lt fun q => ?_)
      rw [show w - a = (w - (a + 1)) + 1 by omega, rng_succ] at er
      cases er
    subst hae
    simp_arith [tuple_ref hT]
    exact k ms T mo dr

end G
end DL
end L2

set_option Elab.async false
set_option linter.all false
set_option maxRecDepth 100000
namespace L2
namespace DL
open PySem PySem.Spec PyProof.Rows
local macro_rules
  | `(tactic| simp_arith [$ls,*]) => `(tactic| simp only [wps, w_C, w_Var, k_Var, w_Bin, k_Bin1, k_Bin2, w_Tst, k_B, w_Chain, k_Ch1, k_Ch2, k_Ch3t, k_Ch3f, k_Ch4, w_And, w_Or, w_Not, k_Andt, k_Andf, k_Ort, k_Orf, k_Not, w_bAnd, w_bOr, w_bNot, w_bYes, k_bAndt, k_bAndf, k_bOrt, k_bOrf, k_bNot, w_dIf, k_dIft, k_dIff, w_aNil, w_aCons, k_Cons1, k_Cons2, w_Tup, w_Lst, w_Cell, k_Tup, k_Lst, k_Cell, w_Call, k_Call, w_CallF, k_CallF, w_CallN, k_CallN, k_New, k_AddN1, w_Un, k_Un, w_Sl, k_Sl1, k_Sl2, k_Sl3, w_No, w_So, k_So, w_iSeq, k_Items, w_Range1, w_Range2, k_Rng1, k_Rng2, w_iEnum, k_Enum, w_Comp, k_Comp, k_AsL, w_TupRg, w_LstRg, k_TupRg, k_LstRg, w_Rev, k_Rev, rev_tup, rev_lst, k_Di1, k_PT1, k_PT2, w_Nil, w_Nop, w_Fl, w_Seq, k_Seqn, k_Seqr, k_Seqb, k_Seqc, w_Expr, k_Drop, w_Ret, k_Ret, w_Set, k_Set, w_Asg, k_Asg1, k_Nx, w_If, k_Ift, k_Iff, w_For, k_For, k_Put1, k_Put2, w_Fun, w_Fun0, k_Funn, k_Funr, w_newK, w_newT, asB_bl, gN, gTupD, gsCons, gsNil, wipeE, itemsOf, seqItems, len_str, add_ii, sub_ii, neg_i, lt_ii, le_ii, gt_ii, ge_ii, eq_ii, ne_ii, eq_ss, ne_ss, isnot_bb, is_bb, is_non, isnot_non, isNonD, ix_tupD, ix_lstD, ix_fzD, at_lit0, at_lit1, at_lit2, at_lit3, len_fz, len_lst, len_tup, List.map_cons, List.map_nil, List.length_cons, List.length_nil, List.getElem?_cons_zero, List.getElem?_cons_succ, List.set_cons_zero, List.set_cons_succ, List.cons_append, List.nil_append, List.replicate_succ, List.replicate_zero, Nat.reduceSub, Nat.reduceAdd, Nat.reduceLeDiff, if_true, if_false, Bool.false_eq_true, Bool.true_eq_false, Bool.not_true, Bool.not_false, Option.bind_some, Option.map_some, Nat.zero_add, ite_true, ite_false, Int.cast_ofNat_Int, Int.natCast_zero, Int.natCast_one, Int.reduceLT, Int.reduceLE, Int.reduceEq, Int.reduceAdd, Int.reduceSub, Int.reduceNeg, decide_true, decide_false, true_and, and_true, le_size, add_ll, add_tt, tuple_lst, tuple_tup, list_tup, list_lst, sl_tup, sl_lst, ii_non_int, ii_non_bool, ii_non_str, ii_non_tuple, ii_non_list, ii_non_dict, ii_bl_int, ii_bl_bool, ii_bl_str, ii_bl_tuple, ii_bl_list, ii_bl_dict, ii_int_int, ii_int_bool, ii_int_str, ii_int_tuple, ii_int_list, ii_int_dict, ii_str_int, ii_str_bool, ii_str_str, ii_str_tuple, ii_str_list, ii_str_dict, ii_tup_int, ii_tup_bool, ii_tup_str, ii_tup_tuple, ii_tup_list, ii_tup_dict, ii_lst_int, ii_lst_bool, ii_lst_str, ii_lst_tuple, ii_lst_list, ii_lst_dict, ii_fz_int, ii_fz_bool, ii_fz_str, ii_fz_tuple, ii_fz_list, ii_fz_dict, $ls,*])
  | `(tactic| simp_arith) => `(tactic| simp only [wps, w_C, w_Var, k_Var, w_Bin, k_Bin1, k_Bin2, w_Tst, k_B, w_Chain, k_Ch1, k_Ch2, k_Ch3t, k_Ch3f, k_Ch4, w_And, w_Or, w_Not, k_Andt, k_Andf, k_Ort, k_Orf, k_Not, w_bAnd, w_bOr, w_bNot, w_bYes, k_bAndt, k_bAndf, k_bOrt, k_bOrf, k_bNot, w_dIf, k_dIft, k_dIff, w_aNil, w_aCons, k_Cons1, k_Cons2, w_Tup, w_Lst, w_Cell, k_Tup, k_Lst, k_Cell, w_Call, k_Call, w_CallF, k_CallF, w_CallN, k_CallN, k_New, k_AddN1, w_Un, k_Un, w_Sl, k_Sl1, k_Sl2, k_Sl3, w_No, w_So, k_So, w_iSeq, k_Items, w_Range1, w_Range2, k_Rng1, k_Rng2, w_iEnum, k_Enum, w_Comp, k_Comp, k_AsL, w_TupRg, w_LstRg, k_TupRg, k_LstRg, w_Rev, k_Rev, rev_tup, rev_lst, k_Di1, k_PT1, k_PT2, w_Nil, w_Nop, w_Fl, w_Seq, k_Seqn, k_Seqr, k_Seqb, k_Seqc, w_Expr, k_Drop, w_Ret, k_Ret, w_Set, k_Set, w_Asg, k_Asg1, k_Nx, w_If, k_Ift, k_Iff, w_For, k_For, k_Put1, k_Put2, w_Fun, w_Fun0, k_Funn, k_Funr, w_newK, w_newT, asB_bl, gN, gTupD, gsCons, gsNil, wipeE, itemsOf, seqItems, len_str, add_ii, sub_ii, neg_i, lt_ii, le_ii, gt_ii, ge_ii, eq_ii, ne_ii, eq_ss, ne_ss, isnot_bb, is_bb, is_non, isnot_non, isNonD, ix_tupD, ix_lstD, ix_fzD, at_lit0, at_lit1, at_lit2, at_lit3, len_fz, len_lst, len_tup, List.map_cons, List.map_nil, List.length_cons, List.length_nil, List.getElem?_cons_zero, List.getElem?_cons_succ, List.set_cons_zero, List.set_cons_succ, List.cons_append, List.nil_append, List.replicate_succ, List.replicate_zero, Nat.reduceSub, Nat.reduceAdd, Nat.reduceLeDiff, if_true, if_false, Bool.false_eq_true, Bool.true_eq_false, Bool.not_true, Bool.not_false, Option.bind_some, Option.map_some, Nat.zero_add, ite_true, ite_false, Int.cast_ofNat_Int, Int.natCast_zero, Int.natCast_one, Int.reduceLT, Int.reduceLE, Int.reduceEq, Int.reduceAdd, Int.reduceSub, Int.reduceNeg, decide_true, decide_false, true_and, and_true, le_size, add_ll, add_tt, tuple_lst, tuple_tup, list_tup, list_lst, sl_tup, sl_lst, ii_non_int, ii_non_bool, ii_non_str, ii_non_tuple, ii_non_list, ii_non_dict, ii_bl_int, ii_bl_bool, ii_bl_str, ii_bl_tuple, ii_bl_list, ii_bl_dict, ii_int_int, ii_int_bool, ii_int_str, ii_int_tuple, ii_int_list, ii_int_dict, ii_str_int, ii_str_bool, ii_str_str, ii_str_tuple, ii_str_list, ii_str_dict, ii_tup_int, ii_tup_bool, ii_tup_str, ii_tup_tuple, ii_tup_list, ii_tup_dict, ii_lst_int, ii_lst_bool, ii_lst_str, ii_lst_tuple, ii_lst_list, ii_lst_dict, ii_fz_int, ii_fz_bool, ii_fz_str, ii_fz_tuple, ii_fz_list, ii_fz_dict])
  | `(tactic| simp_arith [$ls,*] $l:location) => `(tactic| simp only [wps, w_C, w_Var, k_Var, w_Bin, k_Bin1, k_Bin2, w_Tst, k_B, w_Chain, k_Ch1, k_Ch2, k_Ch3t, k_Ch3f, k_Ch4, w_And, w_Or, w_Not, k_Andt, k_Andf, k_Ort, k_Orf, k_Not, w_bAnd, w_bOr, w_bNot, w_bYes, k_bAndt, k_bAndf, k_bOrt, k_bOrf, k_bNot, w_dIf, k_dIft, k_dIff, w_aNil, w_aCons, k_Cons1, k_Cons2, w_Tup, w_Lst, w_Cell, k_Tup, k_Lst, k_Cell, w_Call, k_Call, w_CallF, k_CallF, w_CallN, k_CallN, k_New, k_AddN1, w_Un, k_Un, w_Sl, k_Sl1, k_Sl2, k_Sl3, w_No, w_So, k_So, w_iSeq, k_Items, w_Range1, w_Range2, k_Rng1, k_Rng2, w_iEnum, k_Enum, w_Comp, k_Comp, k_AsL, w_TupRg, w_LstRg, k_TupRg, k_LstRg, w_Rev, k_Rev, rev_tup, rev_lst, k_Di1, k_PT1, k_PT2, w_Nil, w_Nop, w_Fl, w_Seq, k_Seqn, k_Seqr, k_Seqb, k_Seqc, w_Expr, k_Drop, w_Ret, k_Ret, w_Set, k_Set, w_Asg, k_Asg1, k_Nx, w_If, k_Ift, k_Iff, w_For, k_For, k_Put1, k_Put2, w_Fun, w_Fun0, k_Funn, k_Funr, w_newK, w_newT, asB_bl, gN, gTupD, gsCons, gsNil, wipeE, itemsOf, seqItems, len_str, add_ii, sub_ii, neg_i, lt_ii, le_ii, gt_ii, ge_ii, eq_ii, ne_ii, eq_ss, ne_ss, isnot_bb, is_bb, is_non, isnot_non, isNonD, ix_tupD, ix_lstD, ix_fzD, at_lit0, at_lit1, at_lit2, at_lit3, len_fz, len_lst, len_tup, List.map_cons, List.map_nil, List.length_cons, List.length_nil, List.getElem?_cons_zero, List.getElem?_cons_succ, List.set_cons_zero, List.set_cons_succ, List.cons_append, List.nil_append, List.replicate_succ, List.replicate_zero, Nat.reduceSub, Nat.reduceAdd, Nat.reduceLeDiff, if_true, if_false, Bool.false_eq_true, Bool.true_eq_false, Bool.not_true, Bool.not_false, Option.bind_some, Option.map_some, Nat.zero_add, ite_true, ite_false, Int.cast_ofNat_Int, Int.natCast_zero, Int.natCast_one, Int.reduceLT, Int.reduceLE, Int.reduceEq, Int.reduceAdd, Int.reduceSub, Int.reduceNeg, decide_true, decide_false, true_and, and_true, le_size, add_ll, add_tt, tuple_lst, tuple_tup, list_tup, list_lst, sl_tup, sl_lst, ii_non_int, ii_non_bool, ii_non_str, ii_non_tuple, ii_non_list, ii_non_dict, ii_bl_int, ii_bl_bool, ii_bl_str, ii_bl_tuple, ii_bl_list, ii_bl_dict, ii_int_int, ii_int_bool, ii_int_str, ii_int_tuple, ii_int_list, ii_int_dict, ii_str_int, ii_str_bool, ii_str_str, ii_str_tuple, ii_str_list, ii_str_dict, ii_tup_int, ii_tup_bool, ii_tup_str, ii_tup_tuple, ii_tup_list, ii_tup_dict, ii_lst_int, ii_lst_bool, ii_lst_str, ii_lst_tuple, ii_lst_list, ii_lst_dict, ii_fz_int, ii_fz_bool, ii_fz_str, ii_fz_tuple, ii_fz_list, ii_fz_dict, $ls,*] $l:location)
  | `(tactic| simp_arith $l:location) => `(tactic| simp only [wps, w_C, w_Var, k_Var, w_Bin, k_Bin1, k_Bin2, w_Tst, k_B, w_Chain, k_Ch1, k_Ch2, k_Ch3t, k_Ch3f, k_Ch4, w_And, w_Or, w_Not, k_Andt, k_Andf, k_Ort, k_Orf, k_Not, w_bAnd, w_bOr, w_bNot, w_bYes, k_bAndt, k_bAndf, k_bOrt, k_bOrf, k_bNot, w_dIf, k_dIft, k_dIff, w_aNil, w_aCons, k_Cons1, k_Cons2, w_Tup, w_Lst, w_Cell, k_Tup, k_Lst, k_Cell, w_Call, k_Call, w_CallF, k_CallF, w_CallN, k_CallN, k_New, k_AddN1, w_Un, k_Un, w_Sl, k_Sl1, k_Sl2, k_Sl3, w_No, w_So, k_So, w_iSeq, k_Items, w_Range1, w_Range2, k_Rng1, k_Rng2, w_iEnum, k_Enum, w_Comp, k_Comp, k_AsL, w_TupRg, w_LstRg, k_TupRg, k_LstRg, w_Rev, k_Rev, rev_tup, rev_lst, k_Di1, k_PT1, k_PT2, w_Nil, w_Nop, w_Fl, w_Seq, k_Seqn, k_Seqr, k_Seqb, k_Seqc, w_Expr, k_Drop, w_Ret, k_Ret, w_Set, k_Set, w_Asg, k_Asg1, k_Nx, w_If, k_Ift, k_Iff, w_For, k_For, k_Put1, k_Put2, w_Fun, w_Fun0, k_Funn, k_Funr, w_newK, w_newT, asB_bl, gN, gTupD, gsCons, gsNil, wipeE, itemsOf, seqItems, len_str, add_ii, sub_ii, neg_i, lt_ii, le_ii, gt_ii, ge_ii, eq_ii, ne_ii, eq_ss, ne_ss, isnot_bb, is_bb, is_non, isnot_non, isNonD, ix_tupD, ix_lstD, ix_fzD, at_lit0, at_lit1, at_lit2, at_lit3, len_fz, len_lst, len_tup, List.map_cons, List.map_nil, List.length_cons, List.length_nil, List.getElem?_cons_zero, List.getElem?_cons_succ, List.set_cons_zero, List.set_cons_succ, List.cons_append, List.nil_append, List.replicate_succ, List.replicate_zero, Nat.reduceSub, Nat.reduceAdd, Nat.reduceLeDiff, if_true, if_false, Bool.false_eq_true, Bool.true_eq_false, Bool.not_true, Bool.not_false, Option.bind_some, Option.map_some, Nat.zero_add, ite_true, ite_false, Int.cast_ofNat_Int, Int.natCast_zero, Int.natCast_one, Int.reduceLT, Int.reduceLE, Int.reduceEq, Int.reduceAdd, Int.reduceSub, Int.reduceNeg, decide_true, decide_false, true_and, and_true, le_size, add_ll, add_tt, tuple_lst, tuple_tup, list_tup, list_lst, sl_tup, sl_lst, ii_non_int, ii_non_bool, ii_non_str, ii_non_tuple, ii_non_list, ii_non_dict, ii_bl_int, ii_bl_bool, ii_bl_str, ii_bl_tuple, ii_bl_list, ii_bl_dict, ii_int_int, ii_int_bool, ii_int_str, ii_int_tuple, ii_int_list, ii_int_dict, ii_str_int, ii_str_bool, ii_str_str, ii_str_tuple, ii_str_list, ii_str_dict, ii_tup_int, ii_tup_bool, ii_tup_str, ii_tup_tuple, ii_tup_list, ii_tup_dict, ii_lst_int, ii_lst_bool, ii_lst_str, ii_lst_tuple, ii_lst_list, ii_lst_dict, ii_fz_int, ii_fz_bool, ii_fz_str, ii_fz_tuple, ii_fz_list, ii_fz_dict] $l:location)
namespace G
theorem modeOf_mem {kvs : Mem} {p : Nat × Str} (h : p ∈ kvs) : ∃ m, modeOf kvs p.1 = some m := by
  unfold modeOf
  cases e : kvs.find? fun q => decide (q.1 = p.1) with
  | none =>
    have := List.find?_eq_none.mp e p h
    simp at this
  | some q => exact ⟨q.2, rfl⟩
theorem modeOf_in {kvs : Mem} {w : Nat} {m : Str} (h : modeOf kvs w = some m) : (w, m) ∈ kvs := by
  unfold modeOf at h
  obtain ⟨q, e, em⟩ := Option.map_eq_some_iff.mp h
  have h1 := List.mem_of_find?_eq_some e
  have h2 := of_decide_eq_true (show decide (q.1 = w) = true from List.find?_some (p := fun q : Nat × Str => decide (q.1 = w)) e)
  subst em h2
  exact h1

section
variable {env : Ev} {S : Sto} {P : D → Sto → Prop} {g : DG} {tt : DB} {te : DE} {n j : Nat} {vs : List Nat}
/-- a comprehension over a table, nothing written -/
theorem wp_compK {kvs : List (Key × D)} (p : D → Bool) (f : D → D) (he : env[j]? = some (some (.ref n))) (hS : S[n]? = some (.dK kvs)) (hl : kvs.length ≤ sizeLine)
    (hs : ∀ kv ∈ kvs, ∃ env', g (wipeE env vs) (kD kv.1) = some env' ∧ Wp (tt env' (S.set n (.fK kvs))) (fun b S' => S' = S.set n (.fK kvs) ∧ b = p (kD kv.1)) ∧ (p (kD kv.1) = true → Wp (te env' (S.set n (.fK kvs))) fun y S' => S' = S.set n (.fK kvs) ∧ y = f (kD kv.1)))
    (k : P (.lst (((kvs.map fun kv => kD kv.1).filter p).map f)) S) : Wp (dCompK j g vs tt te env S) P := by
  unfold dCompK
  rw [he]
  dsimp only
  rw [hS]
  dsimp only
  rw [wp_bind]
  refine compGo_filter p f (by rw [List.length_map]; exact hl) (fun d hd => ?_) ?_
  · obtain ⟨kv, hkv, e⟩ := List.mem_map.mp hd
    subst e
    exact hs kv hkv
  · rw [set_get hS]
    dsimp only
    have e : (S.set n (.fK kvs)).set n (.dK kvs) = S := by
      rw [set_set]
      refine List.ext_getElem? fun i => ?_
      by_cases c : n = i
      · subst c; rw [set_get hS, hS]
      · rw [List.getElem?_set_ne c]
    rw [e]
    exact Wp.of rfl k
theorem compGoC_filter {ds0 : List D} (p : D → Bool) (f : D → D) (hS : S[n]? = some (.lst ds0)) {P : List D → Sto → Prop} : ∀ {ds acc : List D} (hl : acc.length + ds.length ≤ sizeLine)
    (hs : ∀ d ∈ ds, ∃ env', g env d = some env' ∧ Wp (tt env' S) (fun b S' => S' = S ∧ b = p d) ∧ (p d = true → Wp (te env' S) fun y S' => S' = S ∧ y = f d)) (hf : P (acc ++ (ds.filter p).map f) S), Wp (compGoC n ds0 g env tt te ds acc S) P
  | [], acc, hl, hs, hf => by
    unfold compGoC keepC
    rw [List.filter_nil, List.map_nil, List.append_nil] at hf
    first | exact Wp.of (if_pos hS) hf | (rw [if_pos hS]; exact Wp.of rfl hf)
  | d :: ds, acc, hl, hs, hf => by
    obtain ⟨env', e1, w, w2⟩ := hs d List.mem_cons_self
    have hs' := fun x hx => hs x (List.mem_cons_of_mem d hx)
    rw [List.length_cons] at hl
    unfold compGoC keepC
    rw [if_pos hS, e1]
    dsimp only
    rw [wp_bind, wp_noexc]
    refine w.mono fun b S1 q => ?_
    obtain ⟨eS, eb⟩ := q
    subst eb
    rw [eS]
    cases hp : p d with
    | true =>
      rw [if_pos rfl, wp_bind, wp_noexc]
      refine (w2 hp).mono fun y S2 q => ?_
      obtain ⟨eS, ey⟩ := q
      rw [eS, ey, if_pos (by omega)]
      refine compGoC_filter p f hS (by rw [List.length_append, List.length_singleton]; omega) hs' ?_
      rw [List.filter_cons, if_pos hp, List.map_cons] at hf
      rw [List.append_assoc]
      exact hf
    | false =>
      rw [if_neg Bool.false_ne_true]
      refine compGoC_filter p f hS (by omega) hs' ?_
      rw [List.filter_cons, if_neg (by rw [hp]; exact Bool.false_ne_true)] at hf
      exact hf
/-- a comprehension over a cell, nothing written -/
theorem wp_compC {fe : DE} {ds : List D} (p : D → Bool) (f : D → D) (he : fe env S = .ok (.ref n) S) (hS : S[n]? = some (.lst ds)) (hl : ds.length ≤ sizeLine)
    (hs : ∀ d ∈ ds, ∃ env', g (wipeE env vs) d = some env' ∧ Wp (tt env' S) (fun b S' => S' = S ∧ b = p d) ∧ (p d = true → Wp (te env' S) fun y S' => S' = S ∧ y = f d)) (k : P (.lst ((ds.filter p).map f)) S) : Wp (dCompC fe g vs tt te env S) P := by
  unfold dCompC
  rw [he, Out.bind_ok, lst_ref hS]
  dsimp only
  rw [wp_bind]
  exact compGoC_filter p f hS (by rw [List.length_nil, Nat.zero_add]; exact hl) hs (Wp.of rfl k)
end
/-! ### one deed -/
def SAYS : List Str := ["come", "go", "a", "word"]
def DOk (b : Nat) (kvs : Mem) (cs : List Call) : Hd → Prop
  | .rai k x => k < b ∧ 1 ≤ x ∧ x ≤ 99
  | .awa k x => k < b ∧ 1 ≤ x ∧ x ≤ 9999
  | .beg s ms => (s, ms) ∈ cs
  | .work x => x ≤ 999
  | .say v => v ∈ SAYS
  | .com w => hasM kvs w ["both", "come"] = true
  | .go w => hasM kvs w ["both", "go"] = true
  | .lve w => (modeOf kvs w).isSome = true
def hasNot (kvs : Mem) (x : Str) : D → Bool
  | .int i => match modeOf kvs i.toNat with
    | some m => decide (m ≠ x)
    | none => false
  | _ => false
theorem hasNot_in {kvs : Mem} {x : Str} {xs : List D} {d : D} (hx : ∀ y ∈ xs, ∃ w : Nat, y = .int (w : Int)) (h : d ∈ xs.filter (hasNot kvs x)) : ∃ (w : Nat) (m : Str), d = .int (w : Int) ∧ modeOf kvs w = some m ∧ m ≠ x := by
  obtain ⟨h1, h2⟩ := List.mem_filter.mp h
  obtain ⟨w, e⟩ := hx d h1
  subst e
  unfold hasNot at h2
  dsimp only at h2
  rw [Int.toNat_natCast] at h2
  cases hm : modeOf kvs w with
  | none => rw [hm] at h2; cases h2
  | some m => rw [hm] at h2; exact ⟨w, m, rfl, hm, of_decide_eq_true h2⟩
theorem ne_lst_nil {S : Sto} {xs : List D} (h : plL 63 xs = true) : oNe S (.lst xs) (.lst []) = some (.bl (!decide (xs = []))) := by
  rw [ne_pl rfl (show plD 64 (D.lst xs) = true from h) rfl]
  congr 2
  rw [decide_eq_decide.mpr (show D.lst xs = .lst [] ↔ xs = [] from ⟨fun h => by injection h, fun h => by rw [h]⟩)]
theorem neK {S : Sto} {n m : Nat} {kvs : List (Key × D)} (h : S[n]? = some (.dK kvs)) (h2 : S[m]? = some (.dK [])) : oNeK S (.ref n) (.ref m) = some (.bl (!kvs.isEmpty)) := by
  unfold oNeK
  dsimp only
  rw [h, h2]
theorem listK {S : Sto} {n : Nat} {kvs : List (Key × D)} (h : S[n]? = some (.dK kvs)) : oListK S [.ref n] = some (.lst (kvs.map fun kv => kD kv.1)) := by
  unfold oListK
  dsimp only
  rw [h]
theorem ne_strs (S : Sto) (i j : Str) : oNe S (.str i) (.str j) = some (.bl (!decide (i = j))) := by
  show some (D.bl (true ^^ decide (i = j))) = _
  rw [Bool.true_xor]
theorem keysM (kvs : Mem) : ((tabM kvs).map fun kv => kD kv.1) = kvs.map fun p => D.int (p.1 : Int) := by
  unfold tabM
  rw [List.map_map]
  rfl
theorem getT_fM {S : Sto} {n : Nat} {kvs : Mem} (h : S[n]? = some (.fK (tabM kvs))) (w : Nat) : getT S (.ref n) (.int (w : Int)) = some ((modeOf kvs w).map D.str) := by
  unfold getT
  dsimp only
  rw [h]
  dsimp only
  show (keyD (.int (w : Int))).map _ = _
  unfold keyD
  rw [Option.map_some, tabM_val]
theorem wp_walls {j n v : Nat} {kvs : Mem} {x : Str} {env : Ev} {S : Sto} {P : D → Sto → Prop} (he : env[j]? = some (some (.ref n))) (hv : v ≠ j) (hvl : v < env.length) (hS : S[n]? = some (.dK (tabM kvs))) (hl : kvs.length ≤ 1000)
    (k : ∀ xs, plL 63 xs = true → xs.length ≤ 1000 → (∀ d ∈ xs, ∃ (w : Nat) (m : Str), d = .int (w : Int) ∧ modeOf kvs w = some m ∧ m ≠ x) → P (.lst xs) S) :
    Wp (dCompK j (gN v) [v] (dTst (dBin oNe (dBin oGetT (dVar j) (dVar v)) (dC (.str x)))) (dVar v) env S) P := by
  have hf : (S.set n (.fK (tabM kvs)))[n]? = some (.fK (tabM kvs)) := set_get hS
  have hk : ∀ y ∈ (tabM kvs).map (fun kv => kD kv.1), ∃ w : Nat, y = .int (w : Int) := fun y hy => by
    rw [keysM] at hy
    obtain ⟨p, _, e⟩ := List.mem_map.mp hy
    exact ⟨p.1, e.symm⟩
  refine wp_compK (kvs := tabM kvs) (hasNot kvs x) id he hS (by unfold tabM; rw [List.length_map, sizeLine_eq]; omega) (fun kv hkv => ?_) ?_
  · obtain ⟨p, hp, e⟩ := List.mem_map.mp hkv
    subst e
    obtain ⟨m, hm⟩ := modeOf_mem hp
    have hg : oGetT (S.set n (.fK (tabM kvs))) (.ref n) (.int (p.1 : Int)) = some (.str m) := by
      unfold oGetT
      rw [getT_fM hf, hm]
      rfl
    have e1 : ((wipeE env [v]).set v (some (.int (p.1 : Int))))[j]? = some (some (.ref n)) := by
      rw [List.getElem?_set_ne hv]
      show (env.set v none)[j]? = _
      rw [List.getElem?_set_ne hv]
      exact he
    have e2 : ((wipeE env [v]).set v (some (.int (p.1 : Int))))[v]? = some (some (.int (p.1 : Int))) := List.getElem?_set_self (by show v < (env.set v none).length; rw [List.length_set]; exact hvl)
    refine ⟨_, rfl, ?_, fun _ => ?_⟩
    · simp only [w_Tst, w_Bin, w_Var, w_C, k_Var, k_Bin1, k_Bin2, k_B, wps, kD, e1, e2, hg, ne_strs, asB_bl]
      refine ⟨trivial, ?_⟩
      show _ = hasNot kvs x (.int (p.1 : Int))
      unfold hasNot
      dsimp only
      rw [Int.toNat_natCast, hm]
      simp
    · simp only [w_Var, k_Var, wps, kD, e2]
      exact ⟨trivial, rfl⟩
  · rw [List.map_id]
    refine k _ ?_ ?_ fun d hd => hasNot_in hk hd
    · exact plL_mem fun d hd => by
        obtain ⟨w, m, e, _⟩ := hasNot_in hk hd
        subst e
        rfl
    · refine Nat.le_trans (List.length_filter_le _ _) ?_
      rw [keysM, List.length_map]
      exact hl
theorem at_five {a b c d e : D} {v : Int} (h0 : 0 ≤ v) (h5 : v < 5) : ∃ x ∈ [a, b, c, d, e], atI [a, b, c, d, e] v = some x := by
  have : v = 0 ∨ v = 1 ∨ v = 2 ∨ v = 3 ∨ v = 4 := by omega
  rcases this with q | q | q | q | q <;> subst q
  · exact ⟨a, by simp, rfl⟩
  · exact ⟨b, by simp, rfl⟩
  · exact ⟨c, by simp, rfl⟩
  · exact ⟨d, by simp, rfl⟩
  · exact ⟨e, by simp, rfl⟩
theorem at_in {ds : List D} {v : Int} (h0 : 0 ≤ v) (h : v < ds.length) : ∃ x ∈ ds, atI ds v = some x :=
  ⟨_, List.getElem_mem (by omega), at_nat h0 (List.getElem?_eq_getElem (by omega))⟩
theorem deed_draw {ns : List Int} {n q b : Nat} {S : Sto} {P : D → Sto → Prop} {kvs : Mem} {cs : List Call} (h : DK ns n S) (hv : S[q]? = some (.dK (tabM kvs))) (hq : q ≠ n) (hmd : ∀ p ∈ kvs, p.2 ∈ MD) (hkl : kvs.length ≤ 100) (hb : b ≤ 100) (hcl : cs.length ≤ 100)
    (hcf : ∀ c ∈ cs, memFn c.2) (k : ∀ e S', DOk b kvs cs e → Dr ns n S S' → P e.d S') : Wp (f__law_b_deed [.ref n, .int (b : Int), .ref q, .lst (cs.map callD)] S) P := by
  unfold f__law_b_deed d__law_b_deed
  simp_arith
  refine digit_wp h (by decide) (by decide) fun v S1 h1 h2 dr1 _ => ?_
  simp_arith
  have hv1 := dr1.kp q _ hq hv
  refine wp_walls (n := q) rfl (by decide) (by simp) hv1 (by omega) fun comes pc lc hcm => ?_
  simp_arith
  refine wp_walls (n := q) rfl (by decide) (by simp) hv1 (by omega) fun goes pg lg hgo => ?_
  simp_arith
  refine kbAnd_mid (fun x T => S1 = T ∧ (x = true → 0 < b)) (fun c => ?_) (fun c => ⟨rfl, fun z => by cases z⟩) fun x T hR => ?_
  · simp_arith
    exact fun z => by have := of_decide_eq_true z; omega
  obtain ⟨eT, hR⟩ := hR
  subst eT
  cases x with
  | true =>
    have hb0 := hR rfl
    simp_arith
    refine digit_wp dr1.dk (by omega) (by omega) fun u T2 u1 u2 dr2 _ => ?_
    simp_arith
    refine digit_wp dr2.dk (by decide) (by decide) fun y T3 y1 y2 dr3 _ => ?_
    obtain ⟨x, hx, e⟩ : ∃ x : Nat, (1 ≤ x ∧ x ≤ 99) ∧ atI [D.int 1, .int 1, .int 2, .int 3, .int 99] y = some (.int (x : Int)) := by
      have : y = 0 ∨ y = 1 ∨ y = 2 ∨ y = 3 ∨ y = 4 := by omega
      rcases this with q | q | q | q | q <;> subst q
      · exact ⟨1, by decide, rfl⟩
      · exact ⟨1, by decide, rfl⟩
      · exact ⟨2, by decide, rfl⟩
      · exact ⟨3, by decide, rfl⟩
      · exact ⟨99, by decide, rfl⟩
    simp_arith [e]
    have := k (.rai u.toNat x) T3 ⟨by omega, hx⟩ ((dr1.trans dr2).trans dr3)
    dsimp only [Hd.d] at this
    rw [Int.toNat_of_nonneg u1] at this
    exact this
  | false =>
  simp_arith
  refine kbAnd_mid (fun x T => S1 = T ∧ (x = true → 0 < b)) (fun c => ?_) (fun c => ⟨rfl, fun z => by cases z⟩) fun x T hR => ?_
  · simp_arith
    exact fun z => by have := of_decide_eq_true z; omega
  obtain ⟨eT, hR⟩ := hR
  subst eT
  cases x with
  | true =>
    have hb0 := hR rfl
    simp_arith
    refine digit_wp dr1.dk (by omega) (by omega) fun u T2 u1 u2 dr2 _ => ?_
    simp_arith
    refine digit_wp dr2.dk (by decide) (by decide) fun y T3 y1 y2 dr3 _ => ?_
    obtain ⟨x, hx, e⟩ : ∃ x : Nat, (1 ≤ x ∧ x ≤ 9999) ∧ atI [D.int 1, .int 1, .int 2, .int 3, .int 5, .int 9999] y = some (.int (x : Int)) := by
      have : y = 0 ∨ y = 1 ∨ y = 2 ∨ y = 3 ∨ y = 4 ∨ y = 5 := by omega
      rcases this with q | q | q | q | q | q <;> subst q
      · exact ⟨1, by decide, rfl⟩
      · exact ⟨1, by decide, rfl⟩
      · exact ⟨2, by decide, rfl⟩
      · exact ⟨3, by decide, rfl⟩
      · exact ⟨5, by decide, rfl⟩
      · exact ⟨9999, by decide, rfl⟩
    simp_arith [e]
    have := k (.awa u.toNat x) T3 ⟨by omega, hx⟩ ((dr1.trans dr2).trans dr3)
    dsimp only [Hd.d] at this
    rw [Int.toNat_of_nonneg u1] at this
    exact this
  | false =>
  simp_arith
  refine kbAnd_mid (fun x T => S1 = T ∧ (x = true → comes ≠ [])) (fun c => ?_) (fun c => ⟨rfl, fun z => by cases z⟩) fun x T hR => ?_
  · simp_arith [ne_lst_nil pc]
    exact fun z => by simpa using z
  obtain ⟨eT, hR⟩ := hR
  subst eT
  have inMD : ∀ {w : Nat} {m : Str}, modeOf kvs w = some m → m = "both" ∨ m = "come" ∨ m = "go" := fun {w m} hm => by
    have := hmd _ (modeOf_in hm)
    unfold MD at this
    simpa using this
  cases x with
  | true =>
    simp_arith
    refine some_wp dr1.dk (.inl rfl) (hR rfl) lc fun d hd T2 dr2 _ => ?_
    obtain ⟨w, m, e, hm, hne⟩ := hcm d hd
    subst e
    simp_arith
    refine k (.com w) T2 ?_ (dr1.trans dr2)
    show hasM kvs w ["both", "come"] = true
    unfold hasM
    rw [hm]
    rcases inMD hm with q | q | q
    · subst q; rfl
    · subst q; rfl
    · exact absurd q hne
  | false =>
  simp_arith
  refine kbAnd_mid (fun x T => S1 = T ∧ (x = true → goes ≠ [])) (fun c => ?_) (fun c => ⟨rfl, fun z => by cases z⟩) fun x T hR => ?_
  · simp_arith [ne_lst_nil pg]
    exact fun z => by simpa using z
  obtain ⟨eT, hR⟩ := hR
  subst eT
  cases x with
  | true =>
    simp_arith
    refine some_wp dr1.dk (.inl rfl) (hR rfl) lg fun d hd T2 dr2 _ => ?_
    obtain ⟨w, m, e, hm, hne⟩ := hgo d hd
    subst e
    simp_arith
    refine k (.go w) T2 ?_ (dr1.trans dr2)
    show hasM kvs w ["both", "go"] = true
    unfold hasM
    rw [hm]
    rcases inMD hm with q | q | q
    · subst q; rfl
    · exact absurd q hne
    · subst q; rfl
  | false =>
  simp_arith
  refine kbAnd_mid (fun x T => Dr ns n S T ∧ (x = true → kvs ≠ [])) (fun c => ?_) (fun c => ⟨dr1, fun z => by cases z⟩) fun x T hR => ?_
  · have hql := (List.getElem?_eq_some_iff.mp hv1).1
    simp_arith [neK (List.getElem?_append_left hql |>.trans hv1) (app_at _ _)]
    refine k_bAndc (fun c2 => ?_) fun c2 => ⟨dr1.app _, fun z => by cases z⟩
    simp_arith
    refine digit_wp (dr1.dk.app _) (by decide) (by decide) fun u T2 u1 u2 dr2 _ => ?_
    simp_arith
    refine ⟨(dr1.app _).trans dr2, fun _ e => ?_⟩
    subst e
    cases c2
  obtain ⟨dr2, hR⟩ := hR
  cases x with
  | true =>
    have hk0 := hR rfl
    have hv2 := dr2.kp q _ hq hv
    simp_arith [listK hv2, keysM]
    refine some_wp dr2.dk (.inl rfl) (fun e => hk0 (List.map_eq_nil_iff.mp e)) (by rw [List.length_map]; omega) fun d hd T2 dr3 _ => ?_
    obtain ⟨p, hp, e⟩ := List.mem_map.mp hd
    subst e
    simp_arith
    obtain ⟨m, hm⟩ := modeOf_mem hp
    exact k (.lve p.1) T2 (show (modeOf kvs p.1).isSome = true by rw [hm]; rfl) (dr2.trans dr3)
  | false =>
  simp_arith
  have pcs : plL 63 (cs.map callD) = true := plL_mem fun d hd => by
    obtain ⟨c, hc, e⟩ := List.mem_map.mp hd
    subst e
    exact (plt_call (n := 60) (hcf c hc)).pl
  refine kbAnd_mid (fun x T' => T = T' ∧ (x = true → cs ≠ [])) (fun c => ?_) (fun c => ⟨rfl, fun z => by cases z⟩) fun x T' hR => ?_
  · simp_arith [ne_lst_nil pcs]
    exact fun z e => by subst e; cases z
  obtain ⟨eT, hR⟩ := hR
  subst eT
  cases x with
  | true =>
    simp_arith
    refine some_wp dr2.dk (.inl rfl) (fun e => hR rfl (List.map_eq_nil_iff.mp e)) (by rw [List.length_map]; omega) fun d hd T2 dr3 _ => ?_
    obtain ⟨c, hc, e⟩ := List.mem_map.mp hd
    subst e
    simp_arith [callD]
    exact k (.beg c.1 c.2) T2 hc (dr2.trans dr3)
  | false =>
  simp_arith [mod_ii _ (show (0 : Int) < 2 by decide)]
  refine k_Ifd (fun c => ?_) fun c => ?_
  · simp_arith
    refine digit_wp dr2.dk (by decide) (by decide) fun y T3 y1 y2 dr3 _ => ?_
    obtain ⟨x, hx, e⟩ : ∃ x : Nat, (x ≤ 999) ∧ atI [D.int 0, .int 1, .int 2, .int 5, .int 999] y = some (.int (x : Int)) := by
      have : y = 0 ∨ y = 1 ∨ y = 2 ∨ y = 3 ∨ y = 4 := by omega
      rcases this with q | q | q | q | q <;> subst q
      · exact ⟨0, by decide, rfl⟩
      · exact ⟨1, by decide, rfl⟩
      · exact ⟨2, by decide, rfl⟩
      · exact ⟨5, by decide, rfl⟩
      · exact ⟨999, by decide, rfl⟩
    simp_arith [e]
    exact k (.work x) T3 hx (dr2.trans dr3)
  · simp_arith
    refine digit_wp dr2.dk (by decide) (by decide) fun y T3 y1 y2 dr3 _ => ?_
    obtain ⟨x, hx, e⟩ : ∃ x : Str, (x ∈ SAYS) ∧ atI [D.str "come", .str "go", .str "a", .str "word"] y = some (.str x) := by
      have : y = 0 ∨ y = 1 ∨ y = 2 ∨ y = 3 := by omega
      rcases this with q | q | q | q <;> subst q
      · exact ⟨"come", by decide, rfl⟩
      · exact ⟨"go", by decide, rfl⟩
      · exact ⟨"a", by decide, rfl⟩
      · exact ⟨"word", by decide, rfl⟩
    simp_arith [e]
    exact k (.say x) T3 hx (dr2.trans dr3)

end G
end DL
end L2

set_option Elab.async false
set_option linter.all false
set_option maxRecDepth 100000
namespace L2
namespace DL
open PySem PySem.Spec PyProof.Rows
local macro_rules
  | `(tactic| simp_arith [$ls,*]) => `(tactic| simp only [wps, w_C, w_Var, k_Var, w_Bin, k_Bin1, k_Bin2, w_Tst, k_B, w_Chain, k_Ch1, k_Ch2, k_Ch3t, k_Ch3f, k_Ch4, w_And, w_Or, w_Not, k_Andt, k_Andf, k_Ort, k_Orf, k_Not, w_bAnd, w_bOr, w_bNot, w_bYes, k_bAndt, k_bAndf, k_bOrt, k_bOrf, k_bNot, w_dIf, k_dIft, k_dIff, w_aNil, w_aCons, k_Cons1, k_Cons2, w_Tup, w_Lst, w_Cell, k_Tup, k_Lst, k_Cell, w_Call, k_Call, w_CallF, k_CallF, w_CallN, k_CallN, k_New, k_AddN1, w_Un, k_Un, w_Sl, k_Sl1, k_Sl2, k_Sl3, w_No, w_So, k_So, w_iSeq, k_Items, w_Range1, w_Range2, k_Rng1, k_Rng2, w_iEnum, k_Enum, w_Comp, k_Comp, k_AsL, w_TupRg, w_LstRg, k_TupRg, k_LstRg, w_Rev, k_Rev, rev_tup, rev_lst, k_Di1, k_PT1, k_PT2, w_Nil, w_Nop, w_Fl, w_Seq, k_Seqn, k_Seqr, k_Seqb, k_Seqc, w_Expr, k_Drop, w_Ret, k_Ret, w_Set, k_Set, w_Asg, k_Asg1, k_Nx, w_If, k_Ift, k_Iff, w_For, k_For, k_Put1, k_Put2, w_Fun, w_Fun0, k_Funn, k_Funr, w_newK, w_newT, asB_bl, gN, gTupD, gsCons, gsNil, wipeE, itemsOf, seqItems, len_str, add_ii, sub_ii, neg_i, lt_ii, le_ii, gt_ii, ge_ii, eq_ii, ne_ii, eq_ss, ne_ss, isnot_bb, is_bb, is_non, isnot_non, isNonD, ix_tupD, ix_lstD, ix_fzD, at_lit0, at_lit1, at_lit2, at_lit3, len_fz, len_lst, len_tup, List.map_cons, List.map_nil, List.length_cons, List.length_nil, List.getElem?_cons_zero, List.getElem?_cons_succ, List.set_cons_zero, List.set_cons_succ, List.cons_append, List.nil_append, List.replicate_succ, List.replicate_zero, Nat.reduceSub, Nat.reduceAdd, Nat.reduceLeDiff, if_true, if_false, Bool.false_eq_true, Bool.true_eq_false, Bool.not_true, Bool.not_false, Option.bind_some, Option.map_some, Nat.zero_add, ite_true, ite_false, Int.cast_ofNat_Int, Int.natCast_zero, Int.natCast_one, Int.reduceLT, Int.reduceLE, Int.reduceEq, Int.reduceAdd, Int.reduceSub, Int.reduceNeg, decide_true, decide_false, true_and, and_true, le_size, add_ll, add_tt, tuple_lst, tuple_tup, list_tup, list_lst, sl_tup, sl_lst, ii_non_int, ii_non_bool, ii_non_str, ii_non_tuple, ii_non_list, ii_non_dict, ii_bl_int, ii_bl_bool, ii_bl_str, ii_bl_tuple, ii_bl_list, ii_bl_dict, ii_int_int, ii_int_bool, ii_int_str, ii_int_tuple, ii_int_list, ii_int_dict, ii_str_int, ii_str_bool, ii_str_str, ii_str_tuple, ii_str_list, ii_str_dict, ii_tup_int, ii_tup_bool, ii_tup_str, ii_tup_tuple, ii_tup_list, ii_tup_dict, ii_lst_int, ii_lst_bool, ii_lst_str, ii_lst_tuple, ii_lst_list, ii_lst_dict, ii_fz_int, ii_fz_bool, ii_fz_str, ii_fz_tuple, ii_fz_list, ii_fz_dict, $ls,*])
  | `(tactic| simp_arith) => `(tactic| simp only [wps, w_C, w_Var, k_Var, w_Bin, k_Bin1, k_Bin2, w_Tst, k_B, w_Chain, k_Ch1, k_Ch2, k_Ch3t, k_Ch3f, k_Ch4, w_And, w_Or, w_Not, k_Andt, k_Andf, k_Ort, k_Orf, k_Not, w_bAnd, w_bOr, w_bNot, w_bYes, k_bAndt, k_bAndf, k_bOrt, k_bOrf, k_bNot, w_dIf, k_dIft, k_dIff, w_aNil, w_aCons, k_Cons1, k_Cons2, w_Tup, w_Lst, w_Cell, k_Tup, k_Lst, k_Cell, w_Call, k_Call, w_CallF, k_CallF, w_CallN, k_CallN, k_New, k_AddN1, w_Un, k_Un, w_Sl, k_Sl1, k_Sl2, k_Sl3, w_No, w_So, k_So, w_iSeq, k_Items, w_Range1, w_Range2, k_Rng1, k_Rng2, w_iEnum, k_Enum, w_Comp, k_Comp, k_AsL, w_TupRg, w_LstRg, k_TupRg, k_LstRg, w_Rev, k_Rev, rev_tup, rev_lst, k_Di1, k_PT1, k_PT2, w_Nil, w_Nop, w_Fl, w_Seq, k_Seqn, k_Seqr, k_Seqb, k_Seqc, w_Expr, k_Drop, w_Ret, k_Ret, w_Set, k_Set, w_Asg, k_Asg1, k_Nx, w_If, k_Ift, k_Iff, w_For, k_For, k_Put1, k_Put2, w_Fun, w_Fun0, k_Funn, k_Funr, w_newK, w_newT, asB_bl, gN, gTupD, gsCons, gsNil, wipeE, itemsOf, seqItems, len_str, add_ii, sub_ii, neg_i, lt_ii, le_ii, gt_ii, ge_ii, eq_ii, ne_ii, eq_ss, ne_ss, isnot_bb, is_bb, is_non, isnot_non, isNonD, ix_tupD, ix_lstD, ix_fzD, at_lit0, at_lit1, at_lit2, at_lit3, len_fz, len_lst, len_tup, List.map_cons, List.map_nil, List.length_cons, List.length_nil, List.getElem?_cons_zero, List.getElem?_cons_succ, List.set_cons_zero, List.set_cons_succ, List.cons_append, List.nil_append, List.replicate_succ, List.replicate_zero, Nat.reduceSub, Nat.reduceAdd, Nat.reduceLeDiff, if_true, if_false, Bool.false_eq_true, Bool.true_eq_false, Bool.not_true, Bool.not_false, Option.bind_some, Option.map_some, Nat.zero_add, ite_true, ite_false, Int.cast_ofNat_Int, Int.natCast_zero, Int.natCast_one, Int.reduceLT, Int.reduceLE, Int.reduceEq, Int.reduceAdd, Int.reduceSub, Int.reduceNeg, decide_true, decide_false, true_and, and_true, le_size, add_ll, add_tt, tuple_lst, tuple_tup, list_tup, list_lst, sl_tup, sl_lst, ii_non_int, ii_non_bool, ii_non_str, ii_non_tuple, ii_non_list, ii_non_dict, ii_bl_int, ii_bl_bool, ii_bl_str, ii_bl_tuple, ii_bl_list, ii_bl_dict, ii_int_int, ii_int_bool, ii_int_str, ii_int_tuple, ii_int_list, ii_int_dict, ii_str_int, ii_str_bool, ii_str_str, ii_str_tuple, ii_str_list, ii_str_dict, ii_tup_int, ii_tup_bool, ii_tup_str, ii_tup_tuple, ii_tup_list, ii_tup_dict, ii_lst_int, ii_lst_bool, ii_lst_str, ii_lst_tuple, ii_lst_list, ii_lst_dict, ii_fz_int, ii_fz_bool, ii_fz_str, ii_fz_tuple, ii_fz_list, ii_fz_dict])
  | `(tactic| simp_arith [$ls,*] $l:location) => `(tactic| simp only [wps, w_C, w_Var, k_Var, w_Bin, k_Bin1, k_Bin2, w_Tst, k_B, w_Chain, k_Ch1, k_Ch2, k_Ch3t, k_Ch3f, k_Ch4, w_And, w_Or, w_Not, k_Andt, k_Andf, k_Ort, k_Orf, k_Not, w_bAnd, w_bOr, w_bNot, w_bYes, k_bAndt, k_bAndf, k_bOrt, k_bOrf, k_bNot, w_dIf, k_dIft, k_dIff, w_aNil, w_aCons, k_Cons1, k_Cons2, w_Tup, w_Lst, w_Cell, k_Tup, k_Lst, k_Cell, w_Call, k_Call, w_CallF, k_CallF, w_CallN, k_CallN, k_New, k_AddN1, w_Un, k_Un, w_Sl, k_Sl1, k_Sl2, k_Sl3, w_No, w_So, k_So, w_iSeq, k_Items, w_Range1, w_Range2, k_Rng1, k_Rng2, w_iEnum, k_Enum, w_Comp, k_Comp, k_AsL, w_TupRg, w_LstRg, k_TupRg, k_LstRg, w_Rev, k_Rev, rev_tup, rev_lst, k_Di1, k_PT1, k_PT2, w_Nil, w_Nop, w_Fl, w_Seq, k_Seqn, k_Seqr, k_Seqb, k_Seqc, w_Expr, k_Drop, w_Ret, k_Ret, w_Set, k_Set, w_Asg, k_Asg1, k_Nx, w_If, k_Ift, k_Iff, w_For, k_For, k_Put1, k_Put2, w_Fun, w_Fun0, k_Funn, k_Funr, w_newK, w_newT, asB_bl, gN, gTupD, gsCons, gsNil, wipeE, itemsOf, seqItems, len_str, add_ii, sub_ii, neg_i, lt_ii, le_ii, gt_ii, ge_ii, eq_ii, ne_ii, eq_ss, ne_ss, isnot_bb, is_bb, is_non, isnot_non, isNonD, ix_tupD, ix_lstD, ix_fzD, at_lit0, at_lit1, at_lit2, at_lit3, len_fz, len_lst, len_tup, List.map_cons, List.map_nil, List.length_cons, List.length_nil, List.getElem?_cons_zero, List.getElem?_cons_succ, List.set_cons_zero, List.set_cons_succ, List.cons_append, List.nil_append, List.replicate_succ, List.replicate_zero, Nat.reduceSub, Nat.reduceAdd, Nat.reduceLeDiff, if_true, if_false, Bool.false_eq_true, Bool.true_eq_false, Bool.not_true, Bool.not_false, Option.bind_some, Option.map_some, Nat.zero_add, ite_true, ite_false, Int.cast_ofNat_Int, Int.natCast_zero, Int.natCast_one, Int.reduceLT, Int.reduceLE, Int.reduceEq, Int.reduceAdd, Int.reduceSub, Int.reduceNeg, decide_true, decide_false, true_and, and_true, le_size, add_ll, add_tt, tuple_lst, tuple_tup, list_tup, list_lst, sl_tup, sl_lst, ii_non_int, ii_non_bool, ii_non_str, ii_non_tuple, ii_non_list, ii_non_dict, ii_bl_int, ii_bl_bool, ii_bl_str, ii_bl_tuple, ii_bl_list, ii_bl_dict, ii_int_int, ii_int_bool, ii_int_str, ii_int_tuple, ii_int_list, ii_int_dict, ii_str_int, ii_str_bool, ii_str_str, ii_str_tuple, ii_str_list, ii_str_dict, ii_tup_int, ii_tup_bool, ii_tup_str, ii_tup_tuple, ii_tup_list, ii_tup_dict, ii_lst_int, ii_lst_bool, ii_lst_str, ii_lst_tuple, ii_lst_list, ii_lst_dict, ii_fz_int, ii_fz_bool, ii_fz_str, ii_fz_tuple, ii_fz_list, ii_fz_dict, $ls,*] $l:location)
  | `(tactic| simp_arith $l:location) => `(tactic| simp only [wps, w_C, w_Var, k_Var, w_Bin, k_Bin1, k_Bin2, w_Tst, k_B, w_Chain, k_Ch1, k_Ch2, k_Ch3t, k_Ch3f, k_Ch4, w_And, w_Or, w_Not, k_Andt, k_Andf, k_Ort, k_Orf, k_Not, w_bAnd, w_bOr, w_bNot, w_bYes, k_bAndt, k_bAndf, k_bOrt, k_bOrf, k_bNot, w_dIf, k_dIft, k_dIff, w_aNil, w_aCons, k_Cons1, k_Cons2, w_Tup, w_Lst, w_Cell, k_Tup, k_Lst, k_Cell, w_Call, k_Call, w_CallF, k_CallF, w_CallN, k_CallN, k_New, k_AddN1, w_Un, k_Un, w_Sl, k_Sl1, k_Sl2, k_Sl3, w_No, w_So, k_So, w_iSeq, k_Items, w_Range1, w_Range2, k_Rng1, k_Rng2, w_iEnum, k_Enum, w_Comp, k_Comp, k_AsL, w_TupRg, w_LstRg, k_TupRg, k_LstRg, w_Rev, k_Rev, rev_tup, rev_lst, k_Di1, k_PT1, k_PT2, w_Nil, w_Nop, w_Fl, w_Seq, k_Seqn, k_Seqr, k_Seqb, k_Seqc, w_Expr, k_Drop, w_Ret, k_Ret, w_Set, k_Set, w_Asg, k_Asg1, k_Nx, w_If, k_Ift, k_Iff, w_For, k_For, k_Put1, k_Put2, w_Fun, w_Fun0, k_Funn, k_Funr, w_newK, w_newT, asB_bl, gN, gTupD, gsCons, gsNil, wipeE, itemsOf, seqItems, len_str, add_ii, sub_ii, neg_i, lt_ii, le_ii, gt_ii, ge_ii, eq_ii, ne_ii, eq_ss, ne_ss, isnot_bb, is_bb, is_non, isnot_non, isNonD, ix_tupD, ix_lstD, ix_fzD, at_lit0, at_lit1, at_lit2, at_lit3, len_fz, len_lst, len_tup, List.map_cons, List.map_nil, List.length_cons, List.length_nil, List.getElem?_cons_zero, List.getElem?_cons_succ, List.set_cons_zero, List.set_cons_succ, List.cons_append, List.nil_append, List.replicate_succ, List.replicate_zero, Nat.reduceSub, Nat.reduceAdd, Nat.reduceLeDiff, if_true, if_false, Bool.false_eq_true, Bool.true_eq_false, Bool.not_true, Bool.not_false, Option.bind_some, Option.map_some, Nat.zero_add, ite_true, ite_false, Int.cast_ofNat_Int, Int.natCast_zero, Int.natCast_one, Int.reduceLT, Int.reduceLE, Int.reduceEq, Int.reduceAdd, Int.reduceSub, Int.reduceNeg, decide_true, decide_false, true_and, and_true, le_size, add_ll, add_tt, tuple_lst, tuple_tup, list_tup, list_lst, sl_tup, sl_lst, ii_non_int, ii_non_bool, ii_non_str, ii_non_tuple, ii_non_list, ii_non_dict, ii_bl_int, ii_bl_bool, ii_bl_str, ii_bl_tuple, ii_bl_list, ii_bl_dict, ii_int_int, ii_int_bool, ii_int_str, ii_int_tuple, ii_int_list, ii_int_dict, ii_str_int, ii_str_bool, ii_str_str, ii_str_tuple, ii_str_list, ii_str_dict, ii_tup_int, ii_tup_bool, ii_tup_str, ii_tup_tuple, ii_tup_list, ii_tup_dict, ii_lst_int, ii_lst_bool, ii_lst_str, ii_lst_tuple, ii_lst_list, ii_lst_dict, ii_fz_int, ii_fz_bool, ii_fz_str, ii_fz_tuple, ii_fz_list, ii_fz_dict] $l:location)
namespace G
/-! ### what fits -/
theorem in_two {S : Sto} {w a b : Str} : oIn false S (.str w) (.tup [.str a, .str b]) = some (.bl (decide (w ∈ [a, b]))) := (in_strs (ns := [a, b]) false).trans (by rw [Bool.false_xor])
theorem fits_snoc (e : Hd) : ∀ (es : List Hd) (ms : Mem), fits ms (es ++ [e]) = (fits ms es && mayDo (es.foldl afterDo ms) e)
  | [], ms => by
    show (mayDo ms e && fits _ []) = (true && mayDo ms e)
    rw [Bool.true_and]
    exact Bool.and_true _
  | x :: es, ms => by
    show (mayDo ms x && fits (afterDo ms x) (es ++ [e])) = (mayDo ms x && fits (afterDo ms x) es && _)
    rw [fits_snoc e es, Bool.and_assoc]
    rfl
theorem begs_app (a b : List Hd) : begs (a ++ b) = begs a ++ begs b := List.filterMap_append
theorem after_sub (ms : Mem) (e : Hd) : (afterDo ms e).Sublist ms := by
  cases e with
  | lve w => exact List.filter_sublist
  | _ => exact List.Sublist.refl _
theorem afters_sub : ∀ (es : List Hd) (ms : Mem), (es.foldl afterDo ms).Sublist ms
  | [], ms => List.Sublist.refl _
  | e :: es, ms => (afters_sub es (afterDo ms e)).trans (after_sub ms e)
theorem hasM_in {kvs : Mem} {w : Nat} {l : List Str} (h : hasM kvs w l = true) : ∃ m, (w, m) ∈ kvs := by
  unfold hasM at h
  cases hm : modeOf kvs w with
  | none => rw [hm] at h; cases h
  | some m => exact ⟨m, modeOf_in hm⟩
theorem mem_md {w : Nat} {ms : Mem} (h : MemOk w ms) : memFn ms := fun p hp => by
  have := h.md p hp
  unfold MD at this
  rcases List.mem_cons.mp this with q | q
  · rw [q]; exact okS_w (by decide +kernel)
  · rcases List.mem_cons.mp q with q | q
    · rw [q]; exact okS_w (by decide +kernel)
    · rw [List.mem_singleton.mp q]; exact okS_w (by decide +kernel)

/-! ### a script -/
def handB (kvs ms : Mem) : Bool := ms.all fun p => hasM kvs p.1 [p.2, "both"]
theorem handed_wp {S : Sto} {q : Nat} {kvs ms : Mem} {P : D → Sto → Prop} (h : S[q]? = some (.dK (tabM kvs))) (hl : ms.length ≤ 100) (k : P (.bl (handB kvs ms)) S) : Wp (f__law_b_handed [.ref q, memD ms] S) P := by
  unfold f__law_b_handed d__law_b_handed
  simp_arith [memD]
  refine compGo_pure (fun d => match d with | .tup [.int i, .str m] => .bl (hasM kvs i.toNat [m, "both"]) | d => d) (by rw [List.length_map, sizeLine_eq]; omega) (fun d hd => ?_) ?_
  · obtain ⟨p, _, e⟩ := List.mem_map.mp hd
    subst e
    refine ⟨_, rfl, ?_⟩
    have e0 : hasM kvs ((p.1 : Int)).toNat [p.2, "both"] = hasM kvs p.1 [p.2, "both"] := by rw [Int.toNat_natCast]
    cases hm : modeOf kvs p.1 with
    | none =>
      simp_arith [inT_M h, hm, Option.isSome_none]
      rw [e0]
      unfold hasM
      rw [hm]
    | some m =>
      have hg : oGetT S (.ref q) (.int (p.1 : Int)) = some (.str m) := by
        unfold oGetT
        rw [getT_M h, hm]
        rfl
      simp_arith [inT_M h, hm, Option.isSome_some, hg, in_two]
      rw [e0]
      unfold hasM
      rw [hm]
  · rw [List.map_map]
    show kAsL _ (ms.map fun p => D.bl (hasM kvs p.1 [p.2, "both"])) S
    simp_arith [all_lst]
    exact k
def Hd.St (b w : Nat) : Hd → Prop
  | .rai k x => k < b ∧ 1 ≤ x ∧ x ≤ 99
  | .awa k x => k < b ∧ 1 ≤ x ∧ x ≤ 9999
  | .beg _ _ => True
  | .work x => x ≤ 999
  | .say v => v ∈ SAYS
  | .com k => k < w
  | .go k => k < w
  | .lve k => k < w
structure ScOk (b w : Nat) (ms : Mem) (cs : List Call) (most : Nat) (s : List Hd) : Prop where
  len : s.length ≤ most
  fit : fits ms s = true
  beg : ∀ c ∈ begs s, c ∈ cs
  two : (begs s).length ≤ 2
  st : ∀ e ∈ s, e.St b w
def callP (n : Nat) (kvs : Mem) : D → Bool
  | .tup [_, .tup ms] => decide (n < 2) && ms.all fun d => match d with | .tup [.int i, .str m] => hasM kvs i.toNat [m, "both"] | _ => false
  | _ => false
theorem callP_c (n : Nat) (kvs : Mem) (c : Call) : callP n kvs (callD c) = (decide (n < 2) && handB kvs c.2) := by
  show (decide (n < 2) && (c.2.map fun p => D.tup [.int (p.1 : Int), .str p.2]).all _) = _
  rw [List.all_map]
  rfl
theorem calls_eq (n : Nat) (kvs : Mem) (cs : List Call) : (((cs.map callD).filter (callP n kvs)).map id) = (cs.filter fun c => decide (n < 2) && handB kvs c.2).map callD := by
  rw [List.map_id, List.filter_map]
  congr 1
  refine List.filter_congr fun c _ => ?_
  exact callP_c n kvs c
theorem ib_t (S : Sto) : oIntC S [.bl true] = some (.int 1) := rfl
theorem ib_f (S : Sto) : oIntC S [.bl false] = some (.int 0) := rfl
theorem dok_may {b : Nat} {kvs : Mem} {cs : List Call} {e : Hd} (h : DOk b kvs cs e) (hc : ∀ c ∈ cs, handB kvs c.2 = true) : mayDo kvs e = true := by
  cases e with
  | beg s ms => exact hc _ h
  | com w => exact h
  | go w => exact h
  | lve w => exact h
  | _ => rfl
theorem dok_st {b w : Nat} {kvs : Mem} {cs : List Call} {e : Hd} (h : DOk b kvs cs e) (hw : ∀ p ∈ kvs, p.1 < w) : e.St b w := by
  cases e with
  | com x => obtain ⟨m, q⟩ := hasM_in h; exact hw _ q
  | go x => obtain ⟨m, q⟩ := hasM_in h; exact hw _ q
  | lve x => obtain ⟨m, q⟩ := Option.isSome_iff_exists.mp h; exact hw _ (modeOf_in q)
  | beg s ms => exact trivial
  | rai k x => exact h
  | awa k x => exact h
  | work x => exact h
  | say x => exact h
theorem Dr.over {ns : List Int} {m q : Nat} {S S' : Sto} (h : Dr ns m S S') (c : Cell) (hm : q ≠ m) (hq : S.length ≤ q) : Dr ns m S (S'.set q c) := h.put c hm hq
theorem script_draw {ns : List Int} {n kn b w most : Nat} {S : Sto} {P : D → Sto → Prop} {ms : Mem} {cs : List Call} (h : DK ns n S) (hk : S[kn]? = some (.lst (cs.map callD))) (hkn : kn ≠ n) (mo : MemOk w ms) (hw : w ≤ 10) (hb : b ≤ 100) (hmo : most ≤ 80) (hcl : cs.length ≤ 100)
    (hcm : ∀ c ∈ cs, MemOk w c.2) (k : ∀ s S', ScOk b w ms cs most s → Dr ns n S S' → P (hsD s) S') : Wp (f__law_b_script [.ref n, .int (b : Int), memD ms, .ref kn, .int (most : Int)] S) P := by
  have hn := h.lt
  have hknl := (List.getElem?_eq_some_iff.mp hk).1
  have mll := mo.len_le
  unfold f__law_b_script d__law_b_script
  simp_arith [memD]
  refine forGo_wp (fun rest env T => ∃ (done left : Mem) (e6 e7 : Option D), ms = done ++ left ∧ rest = left.map (fun p => D.tup [.int (p.1 : Int), .str p.2]) ∧ env = [some (.ref n), some (.int (b : Int)), some (.tup (ms.map fun p => D.tup [.int (p.1 : Int), .str p.2])), some (.ref kn), some (.int (most : Int)), some (.ref S.length), e6, e7, none, none, none, none, none, none] ∧ T = S ++ [.dK (tabM done)]) _ _ _
    ⟨[], ms, none, none, rfl, rfl, rfl, rfl⟩ (fun d rest env T hI => ?_) fun env T hI => ?_
  · obtain ⟨done, left, e6, e7, em, er, e, eT⟩ := hI
    cases left with
    | nil => cases er
    | cons p left =>
      obtain ⟨ed, er2⟩ := List.cons.inj er
      subst e eT ed
      refine ⟨_, rfl, ?_⟩
      have nd := mo.nd
      have hn : p.1 ∉ done.map (·.1) := fun q => by
        rw [em, List.map_append, List.map_cons] at nd
        exact (List.nodup_append.mp nd).2.2 p.1 q p.1 List.mem_cons_self rfl
      have hdl : done.length ≤ 10 := by
        have := congrArg List.length em
        rw [List.length_append] at this
        omega
      simp_arith
      refine w_PutT ?_
      simp_arith [k_PT1, k_PT2]
      refine ⟨(S ++ [Cell.dK (tabM done)]).set S.length (Cell.dK (tabM (done ++ [(p.1, p.2)]))), ?_, ?_⟩
      · unfold putT
        dsimp only
        rw [app_at]
        dsimp only
        rw [if_pos (by unfold tabM; rw [List.length_map, sizeLine_eq]; omega)]
        dsimp only [keyD, Option.map_some]
        rw [tabM_put hn]
      · rw [set_last]
        exact ⟨done ++ [p], left, _, _, by rw [em, List.append_assoc]; rfl, er2, rfl, rfl⟩
  · obtain ⟨done, left, e6, e7, em, er, e, eT⟩ := hI
    cases left with
    | cons p left => cases er
    | nil =>
    rw [List.append_nil] at em
    subst em e eT
    simp_arith
    have dr0 : Dr ns n S (S ++ [.dK (tabM ms)] ++ [.lst []]) := ((Dr.refl h).app _).app _
    have hL : (S ++ [Cell.dK (tabM ms)]).length = S.length + 1 := by rw [List.length_append]; rfl
    refine digit_wp dr0.dk (by omega) (by omega) fun v S1 v1 v2 dr1 hl1 => ?_
    have hm0 : S1[S.length]? = some (.dK (tabM ms)) := dr1.kp _ _ (by omega) (by rw [List.getElem?_append_left (by omega)]; exact app_at _ _)
    have hd0 : S1[S.length + 1]? = some (.lst []) := dr1.kp _ _ (by omega) (by rw [← hL]; exact app_at _ _)
    simp_arith [rng1_int v1 (by omega), hL]
    refine forGo_wp (fun rest env T => ∃ (i : Nat) (es : List Hd) (x : Int) (e10 e11 e12 e13 : Option D), i ≤ v.toNat ∧ rest = rngL (i : Int) (v.toNat - i) ∧ env = [some (.ref n), some (.int (b : Int)), some (.tup (ms.map fun p => D.tup [.int (p.1 : Int), .str p.2])), some (.ref kn), some (.int (most : Int)), some (.ref S.length), e6, e7, some (.ref (S.length + 1)), some (.int x), e10, e11, e12, e13] ∧
        x = ((begs es).length : Int) ∧ es.length = i ∧ T[S.length]? = some (.dK (tabM (es.foldl afterDo ms))) ∧ T[S.length + 1]? = some (.lst (es.map Hd.d)) ∧ ScOk b w ms cs most es ∧ Dr ns n S T) _ _ _
      ⟨0, [], 0, none, none, none, none, Nat.zero_le _, rfl, rfl, rfl, rfl, hm0, hd0, ⟨Nat.zero_le _, rfl, fun c hc => absurd hc List.not_mem_nil, Nat.zero_le _, fun c hc => absurd hc List.not_mem_nil⟩, dr0.trans dr1⟩ (fun d rest env T hI => ?_) fun env T hI => ?_
    · obtain ⟨i, es, x, e10, e11, e12, e13, hi, er, e, ex, hel, hTm, hTd, so, dr⟩ := hI
      have hlt : i < v.toNat := by
        refine Nat.lt_of_not_le fun q => ?_
        rw [show v.toNat - i = 0 by omega] at er
        cases er
      rw [show v.toNat - i = (v.toNat - (i + 1)) + 1 by omega, rng_succ] at er
      obtain ⟨ed, er2⟩ := List.cons.inj er
      subst e ed
      refine ⟨_, rfl, ?_⟩
      have hTk := dr.kp _ _ hkn hk
      have sub := afters_sub es ms
      simp_arith
      refine wp_compC (n := kn) (ds := cs.map callD) (callP (begs es).length (es.foldl afterDo ms)) id rfl hTk (by rw [List.length_map, sizeLine_eq]; omega) (fun d hd => ?_) ?_
      · obtain ⟨c, hc, e⟩ := List.mem_map.mp hd
        subst e
        refine ⟨_, rfl, ?_, fun _ => ?_⟩
        · rw [callP_c]
          simp_arith [callD, ex]
          refine k_bAndc (fun c1 => ?_) fun c1 => ?_
          · have c1' := of_decide_eq_true c1
            simp_arith
            refine handed_wp hTm (by have := (hcm c hc).len_le; omega) ?_
            simp_arith
            rw [decide_eq_true (show (begs es).length < 2 by omega), Bool.true_and]
          · have c1' := of_decide_eq_false c1
            refine ⟨rfl, ?_⟩
            rw [decide_eq_false (show ¬ (begs es).length < 2 by omega), Bool.false_and]
        · simp_arith
          rfl
      rw [calls_eq]
      simp_arith
      refine deed_draw dr.dk hTm (by omega) (fun p hp => mo.md p (sub.subset hp)) (by have := sub.length_le; omega) hb (Nat.le_trans (List.length_filter_le _ _) hcl) (fun c hc => mem_md (hcm c (List.mem_filter.mp hc).1)) fun e T2 dok dr2 => ?_
      have hTm2 := dr2.kp _ _ (by omega) hTm
      have hTd2 := dr2.kp _ _ (by omega) hTd
      have hmay : mayDo (es.foldl afterDo ms) e = true := dok_may dok fun c hc => by
        have := (List.mem_filter.mp hc).2
        rw [Bool.and_eq_true] at this
        exact this.2
      have so2 : ScOk b w ms cs most (es ++ [e]) := by
        refine ⟨by rw [List.length_append, List.length_singleton]; omega, by rw [fits_snoc, so.fit, hmay]; rfl, fun c hc => ?_, ?_, fun y hy => ?_⟩
        · rw [begs_app] at hc
          rcases List.mem_append.mp hc with q | q
          · exact so.beg c q
          · cases e with
            | beg s m =>
              rw [List.mem_singleton.mp q]
              exact (List.mem_filter.mp (show (s, m) ∈ _ from dok)).1
            | _ => cases q
        · rw [begs_app, List.length_append]
          cases e with
          | beg s m =>
            have q := (List.mem_filter.mp (show (s, m) ∈ _ from dok)).2
            rw [Bool.and_eq_true, decide_eq_true_eq] at q
            have := q.1
            show (begs es).length + 1 ≤ 2
            omega
          | _ => exact so.two
        · rcases List.mem_append.mp hy with q | q
          · exact so.st y q
          · rw [List.mem_singleton.mp q]
            exact dok_st dok fun p hp => mo.lt p (sub.subset hp)
      have efold : (es ++ [e]).foldl afterDo ms = afterDo (es.foldl afterDo ms) e := by rw [List.foldl_append]; rfl
      have emap : (es ++ [e]).map Hd.d = es.map Hd.d ++ [e.d] := by rw [List.map_append]; rfl
      have el2 : (es ++ [e]).length = i + 1 := by rw [List.length_append, hel]; rfl
      have eb : ∀ z : List Call, begs [e] = z → begs (es ++ [e]) = begs es ++ z := fun z hz => by rw [begs_app, hz]
      have hdl : (es.map Hd.d).length < sizeLine := by rw [List.length_map, sizeLine_eq]; omega
      have nn1 : S.length + 1 ≠ n := by omega
      have drf := dr.trans dr2
      cases e with
      | lve x =>
        simp_arith [Hd.d, eq_self, hn_raise_await, hn_raise_begin, hn_raise_work, hn_raise_say, hn_raise_come, hn_raise_go, hn_raise_leave, hn_await_raise, hn_await_begin, hn_await_work, hn_await_say, hn_await_come, hn_await_go, hn_await_leave, hn_begin_raise, hn_begin_await, hn_begin_work, hn_begin_say, hn_begin_come, hn_begin_go, hn_begin_leave, hn_work_raise, hn_work_await, hn_work_begin, hn_work_say, hn_work_come, hn_work_go, hn_work_leave, hn_say_raise, hn_say_await, hn_say_begin, hn_say_work, hn_say_come, hn_say_go, hn_say_leave, hn_come_raise, hn_come_await, hn_come_begin, hn_come_work, hn_come_say, hn_come_go, hn_come_leave, hn_go_raise, hn_go_await, hn_go_begin, hn_go_work, hn_go_say, hn_go_come, hn_go_leave, hn_leave_raise, hn_leave_await, hn_leave_begin, hn_leave_work, hn_leave_say, hn_leave_come, hn_leave_go, ib_t, ib_f, Int.add_zero]
        refine w_PopK ?_
        simp_arith
        obtain ⟨m, hmo⟩ := Option.isSome_iff_exists.mp (show (modeOf (es.foldl afterDo ms) x).isSome = true from hmay)
        refine ⟨S.length, rfl, ⟨_, hTm2⟩, ?_⟩
        simp_arith
        refine ⟨_, .inl (x : Int), .str m, hTm2, rfl, by rw [tabM_val, hmo]; rfl, ?_⟩
        rw [tabM_drop]
        have hTd3 : (T2.set S.length (.dK (tabM ((es.foldl afterDo ms).filter fun p => decide (p.1 ≠ x)))))[S.length + 1]? = some (.lst (es.map Hd.d)) := by rw [List.getElem?_set_ne (by omega)]; exact hTd2
        refine w_App ?_
        simp_arith
        refine k_App hTd3 ?_
        simp_arith
        refine ⟨_, hTd3, hdl, ?_⟩
        simp_arith
        refine ⟨i + 1, _, _, _, _, _, _, hlt, er2, rfl, ?_, el2, ?_, ?_, so2, (drf.put _ (by omega) (Nat.le_refl _)).put _ (by omega) (by omega)⟩
        · rw [eb [] rfl, List.append_nil]; exact ex
        · rw [efold, List.getElem?_set_ne (by omega)]; exact set_get hTm2
        · rw [emap]; exact set_get hTd3
      | beg s m =>
        simp_arith [Hd.d, eq_self, hn_raise_await, hn_raise_begin, hn_raise_work, hn_raise_say, hn_raise_come, hn_raise_go, hn_raise_leave, hn_await_raise, hn_await_begin, hn_await_work, hn_await_say, hn_await_come, hn_await_go, hn_await_leave, hn_begin_raise, hn_begin_await, hn_begin_work, hn_begin_say, hn_begin_come, hn_begin_go, hn_begin_leave, hn_work_raise, hn_work_await, hn_work_begin, hn_work_say, hn_work_come, hn_work_go, hn_work_leave, hn_say_raise, hn_say_await, hn_say_begin, hn_say_work, hn_say_come, hn_say_go, hn_say_leave, hn_come_raise, hn_come_await, hn_come_begin, hn_come_work, hn_come_say, hn_come_go, hn_come_leave, hn_go_raise, hn_go_await, hn_go_begin, hn_go_work, hn_go_say, hn_go_come, hn_go_leave, hn_leave_raise, hn_leave_await, hn_leave_begin, hn_leave_work, hn_leave_say, hn_leave_come, hn_leave_go, ib_t, ib_f]
        refine w_App ?_
        simp_arith
        refine k_App hTd2 ?_
        simp_arith
        refine ⟨_, hTd2, hdl, ?_⟩
        simp_arith
        refine ⟨i + 1, _, _, _, _, _, _, hlt, er2, rfl, ?_, el2, ?_, ?_, so2, drf.put _ nn1 (by omega)⟩
        · rw [eb [(s, m)] rfl, List.length_append, ex]; rfl
        · rw [efold, List.getElem?_set_ne (by omega)]; exact hTm2
        · rw [emap]; exact set_get hTd2
      | _ =>
        simp_arith [Hd.d, eq_self, hn_raise_await, hn_raise_begin, hn_raise_work, hn_raise_say, hn_raise_come, hn_raise_go, hn_raise_leave, hn_await_raise, hn_await_begin, hn_await_work, hn_await_say, hn_await_come, hn_await_go, hn_await_leave, hn_begin_raise, hn_begin_await, hn_begin_work, hn_begin_say, hn_begin_come, hn_begin_go, hn_begin_leave, hn_work_raise, hn_work_await, hn_work_begin, hn_work_say, hn_work_come, hn_work_go, hn_work_leave, hn_say_raise, hn_say_await, hn_say_begin, hn_say_work, hn_say_come, hn_say_go, hn_say_leave, hn_come_raise, hn_come_await, hn_come_begin, hn_come_work, hn_come_say, hn_come_go, hn_come_leave, hn_go_raise, hn_go_await, hn_go_begin, hn_go_work, hn_go_say, hn_go_come, hn_go_leave, hn_leave_raise, hn_leave_await, hn_leave_begin, hn_leave_work, hn_leave_say, hn_leave_come, hn_leave_go, ib_t, ib_f, Int.add_zero]
        refine w_App ?_
        simp_arith
        refine k_App hTd2 ?_
        simp_arith
        refine ⟨_, hTd2, hdl, ?_⟩
        simp_arith
        refine ⟨i + 1, _, _, _, _, _, _, hlt, er2, rfl, ?_, el2, ?_, ?_, so2, drf.put _ nn1 (by omega)⟩
        · rw [eb [] rfl, List.append_nil]; exact ex
        · rw [efold, List.getElem?_set_ne (by omega)]; exact hTm2
        · rw [emap]; exact set_get hTd2
    · obtain ⟨i, es, x, e10, e11, e12, e13, hi, er, e, ex, hel, hTm, hTd, so, dr⟩ := hI
      subst e
      simp_arith [tuple_ref hTd]
      exact k es T so dr

end G
end DL
end L2

set_option Elab.async false
set_option linter.all false
set_option maxRecDepth 100000
namespace L2
namespace DL
open PySem PySem.Spec PyProof.Rows
local macro_rules
  | `(tactic| simp_arith [$ls,*]) => `(tactic| simp only [wps, w_C, w_Var, k_Var, w_Bin, k_Bin1, k_Bin2, w_Tst, k_B, w_Chain, k_Ch1, k_Ch2, k_Ch3t, k_Ch3f, k_Ch4, w_And, w_Or, w_Not, k_Andt, k_Andf, k_Ort, k_Orf, k_Not, w_bAnd, w_bOr, w_bNot, w_bYes, k_bAndt, k_bAndf, k_bOrt, k_bOrf, k_bNot, w_dIf, k_dIft, k_dIff, w_aNil, w_aCons, k_Cons1, k_Cons2, w_Tup, w_Lst, w_Cell, k_Tup, k_Lst, k_Cell, w_Call, k_Call, w_CallF, k_CallF, w_CallN, k_CallN, k_New, k_AddN1, w_Un, k_Un, w_Sl, k_Sl1, k_Sl2, k_Sl3, w_No, w_So, k_So, w_iSeq, k_Items, w_Range1, w_Range2, k_Rng1, k_Rng2, w_iEnum, k_Enum, w_Comp, k_Comp, k_AsL, w_TupRg, w_LstRg, k_TupRg, k_LstRg, w_Rev, k_Rev, rev_tup, rev_lst, k_Di1, k_PT1, k_PT2, w_Nil, w_Nop, w_Fl, w_Seq, k_Seqn, k_Seqr, k_Seqb, k_Seqc, w_Expr, k_Drop, w_Ret, k_Ret, w_Set, k_Set, w_Asg, k_Asg1, k_Nx, w_If, k_Ift, k_Iff, w_For, k_For, k_Put1, k_Put2, w_Fun, w_Fun0, k_Funn, k_Funr, w_newK, w_newT, asB_bl, gN, gTupD, gsCons, gsNil, wipeE, itemsOf, seqItems, len_str, add_ii, sub_ii, neg_i, lt_ii, le_ii, gt_ii, ge_ii, eq_ii, ne_ii, eq_ss, ne_ss, isnot_bb, is_bb, is_non, isnot_non, isNonD, ix_tupD, ix_lstD, ix_fzD, at_lit0, at_lit1, at_lit2, at_lit3, len_fz, len_lst, len_tup, List.map_cons, List.map_nil, List.length_cons, List.length_nil, List.getElem?_cons_zero, List.getElem?_cons_succ, List.set_cons_zero, List.set_cons_succ, List.cons_append, List.nil_append, List.replicate_succ, List.replicate_zero, Nat.reduceSub, Nat.reduceAdd, Nat.reduceLeDiff, if_true, if_false, Bool.false_eq_true, Bool.true_eq_false, Bool.not_true, Bool.not_false, Option.bind_some, Option.map_some, Nat.zero_add, ite_true, ite_false, Int.cast_ofNat_Int, Int.natCast_zero, Int.natCast_one, Int.reduceLT, Int.reduceLE, Int.reduceEq, Int.reduceAdd, Int.reduceSub, Int.reduceNeg, decide_true, decide_false, true_and, and_true, le_size, add_ll, add_tt, tuple_lst, tuple_tup, list_tup, list_lst, sl_tup, sl_lst, ii_non_int, ii_non_bool, ii_non_str, ii_non_tuple, ii_non_list, ii_non_dict, ii_bl_int, ii_bl_bool, ii_bl_str, ii_bl_tuple, ii_bl_list, ii_bl_dict, ii_int_int, ii_int_bool, ii_int_str, ii_int_tuple, ii_int_list, ii_int_dict, ii_str_int, ii_str_bool, ii_str_str, ii_str_tuple, ii_str_list, ii_str_dict, ii_tup_int, ii_tup_bool, ii_tup_str, ii_tup_tuple, ii_tup_list, ii_tup_dict, ii_lst_int, ii_lst_bool, ii_lst_str, ii_lst_tuple, ii_lst_list, ii_lst_dict, ii_fz_int, ii_fz_bool, ii_fz_str, ii_fz_tuple, ii_fz_list, ii_fz_dict, $ls,*])
  | `(tactic| simp_arith) => `(tactic| simp only [wps, w_C, w_Var, k_Var, w_Bin, k_Bin1, k_Bin2, w_Tst, k_B, w_Chain, k_Ch1, k_Ch2, k_Ch3t, k_Ch3f, k_Ch4, w_And, w_Or, w_Not, k_Andt, k_Andf, k_Ort, k_Orf, k_Not, w_bAnd, w_bOr, w_bNot, w_bYes, k_bAndt, k_bAndf, k_bOrt, k_bOrf, k_bNot, w_dIf, k_dIft, k_dIff, w_aNil, w_aCons, k_Cons1, k_Cons2, w_Tup, w_Lst, w_Cell, k_Tup, k_Lst, k_Cell, w_Call, k_Call, w_CallF, k_CallF, w_CallN, k_CallN, k_New, k_AddN1, w_Un, k_Un, w_Sl, k_Sl1, k_Sl2, k_Sl3, w_No, w_So, k_So, w_iSeq, k_Items, w_Range1, w_Range2, k_Rng1, k_Rng2, w_iEnum, k_Enum, w_Comp, k_Comp, k_AsL, w_TupRg, w_LstRg, k_TupRg, k_LstRg, w_Rev, k_Rev, rev_tup, rev_lst, k_Di1, k_PT1, k_PT2, w_Nil, w_Nop, w_Fl, w_Seq, k_Seqn, k_Seqr, k_Seqb, k_Seqc, w_Expr, k_Drop, w_Ret, k_Ret, w_Set, k_Set, w_Asg, k_Asg1, k_Nx, w_If, k_Ift, k_Iff, w_For, k_For, k_Put1, k_Put2, w_Fun, w_Fun0, k_Funn, k_Funr, w_newK, w_newT, asB_bl, gN, gTupD, gsCons, gsNil, wipeE, itemsOf, seqItems, len_str, add_ii, sub_ii, neg_i, lt_ii, le_ii, gt_ii, ge_ii, eq_ii, ne_ii, eq_ss, ne_ss, isnot_bb, is_bb, is_non, isnot_non, isNonD, ix_tupD, ix_lstD, ix_fzD, at_lit0, at_lit1, at_lit2, at_lit3, len_fz, len_lst, len_tup, List.map_cons, List.map_nil, List.length_cons, List.length_nil, List.getElem?_cons_zero, List.getElem?_cons_succ, List.set_cons_zero, List.set_cons_succ, List.cons_append, List.nil_append, List.replicate_succ, List.replicate_zero, Nat.reduceSub, Nat.reduceAdd, Nat.reduceLeDiff, if_true, if_false, Bool.false_eq_true, Bool.true_eq_false, Bool.not_true, Bool.not_false, Option.bind_some, Option.map_some, Nat.zero_add, ite_true, ite_false, Int.cast_ofNat_Int, Int.natCast_zero, Int.natCast_one, Int.reduceLT, Int.reduceLE, Int.reduceEq, Int.reduceAdd, Int.reduceSub, Int.reduceNeg, decide_true, decide_false, true_and, and_true, le_size, add_ll, add_tt, tuple_lst, tuple_tup, list_tup, list_lst, sl_tup, sl_lst, ii_non_int, ii_non_bool, ii_non_str, ii_non_tuple, ii_non_list, ii_non_dict, ii_bl_int, ii_bl_bool, ii_bl_str, ii_bl_tuple, ii_bl_list, ii_bl_dict, ii_int_int, ii_int_bool, ii_int_str, ii_int_tuple, ii_int_list, ii_int_dict, ii_str_int, ii_str_bool, ii_str_str, ii_str_tuple, ii_str_list, ii_str_dict, ii_tup_int, ii_tup_bool, ii_tup_str, ii_tup_tuple, ii_tup_list, ii_tup_dict, ii_lst_int, ii_lst_bool, ii_lst_str, ii_lst_tuple, ii_lst_list, ii_lst_dict, ii_fz_int, ii_fz_bool, ii_fz_str, ii_fz_tuple, ii_fz_list, ii_fz_dict])
  | `(tactic| simp_arith [$ls,*] $l:location) => `(tactic| simp only [wps, w_C, w_Var, k_Var, w_Bin, k_Bin1, k_Bin2, w_Tst, k_B, w_Chain, k_Ch1, k_Ch2, k_Ch3t, k_Ch3f, k_Ch4, w_And, w_Or, w_Not, k_Andt, k_Andf, k_Ort, k_Orf, k_Not, w_bAnd, w_bOr, w_bNot, w_bYes, k_bAndt, k_bAndf, k_bOrt, k_bOrf, k_bNot, w_dIf, k_dIft, k_dIff, w_aNil, w_aCons, k_Cons1, k_Cons2, w_Tup, w_Lst, w_Cell, k_Tup, k_Lst, k_Cell, w_Call, k_Call, w_CallF, k_CallF, w_CallN, k_CallN, k_New, k_AddN1, w_Un, k_Un, w_Sl, k_Sl1, k_Sl2, k_Sl3, w_No, w_So, k_So, w_iSeq, k_Items, w_Range1, w_Range2, k_Rng1, k_Rng2, w_iEnum, k_Enum, w_Comp, k_Comp, k_AsL, w_TupRg, w_LstRg, k_TupRg, k_LstRg, w_Rev, k_Rev, rev_tup, rev_lst, k_Di1, k_PT1, k_PT2, w_Nil, w_Nop, w_Fl, w_Seq, k_Seqn, k_Seqr, k_Seqb, k_Seqc, w_Expr, k_Drop, w_Ret, k_Ret, w_Set, k_Set, w_Asg, k_Asg1, k_Nx, w_If, k_Ift, k_Iff, w_For, k_For, k_Put1, k_Put2, w_Fun, w_Fun0, k_Funn, k_Funr, w_newK, w_newT, asB_bl, gN, gTupD, gsCons, gsNil, wipeE, itemsOf, seqItems, len_str, add_ii, sub_ii, neg_i, lt_ii, le_ii, gt_ii, ge_ii, eq_ii, ne_ii, eq_ss, ne_ss, isnot_bb, is_bb, is_non, isnot_non, isNonD, ix_tupD, ix_lstD, ix_fzD, at_lit0, at_lit1, at_lit2, at_lit3, len_fz, len_lst, len_tup, List.map_cons, List.map_nil, List.length_cons, List.length_nil, List.getElem?_cons_zero, List.getElem?_cons_succ, List.set_cons_zero, List.set_cons_succ, List.cons_append, List.nil_append, List.replicate_succ, List.replicate_zero, Nat.reduceSub, Nat.reduceAdd, Nat.reduceLeDiff, if_true, if_false, Bool.false_eq_true, Bool.true_eq_false, Bool.not_true, Bool.not_false, Option.bind_some, Option.map_some, Nat.zero_add, ite_true, ite_false, Int.cast_ofNat_Int, Int.natCast_zero, Int.natCast_one, Int.reduceLT, Int.reduceLE, Int.reduceEq, Int.reduceAdd, Int.reduceSub, Int.reduceNeg, decide_true, decide_false, true_and, and_true, le_size, add_ll, add_tt, tuple_lst, tuple_tup, list_tup, list_lst, sl_tup, sl_lst, ii_non_int, ii_non_bool, ii_non_str, ii_non_tuple, ii_non_list, ii_non_dict, ii_bl_int, ii_bl_bool, ii_bl_str, ii_bl_tuple, ii_bl_list, ii_bl_dict, ii_int_int, ii_int_bool, ii_int_str, ii_int_tuple, ii_int_list, ii_int_dict, ii_str_int, ii_str_bool, ii_str_str, ii_str_tuple, ii_str_list, ii_str_dict, ii_tup_int, ii_tup_bool, ii_tup_str, ii_tup_tuple, ii_tup_list, ii_tup_dict, ii_lst_int, ii_lst_bool, ii_lst_str, ii_lst_tuple, ii_lst_list, ii_lst_dict, ii_fz_int, ii_fz_bool, ii_fz_str, ii_fz_tuple, ii_fz_list, ii_fz_dict, $ls,*] $l:location)
  | `(tactic| simp_arith $l:location) => `(tactic| simp only [wps, w_C, w_Var, k_Var, w_Bin, k_Bin1, k_Bin2, w_Tst, k_B, w_Chain, k_Ch1, k_Ch2, k_Ch3t, k_Ch3f, k_Ch4, w_And, w_Or, w_Not, k_Andt, k_Andf, k_Ort, k_Orf, k_Not, w_bAnd, w_bOr, w_bNot, w_bYes, k_bAndt, k_bAndf, k_bOrt, k_bOrf, k_bNot, w_dIf, k_dIft, k_dIff, w_aNil, w_aCons, k_Cons1, k_Cons2, w_Tup, w_Lst, w_Cell, k_Tup, k_Lst, k_Cell, w_Call, k_Call, w_CallF, k_CallF, w_CallN, k_CallN, k_New, k_AddN1, w_Un, k_Un, w_Sl, k_Sl1, k_Sl2, k_Sl3, w_No, w_So, k_So, w_iSeq, k_Items, w_Range1, w_Range2, k_Rng1, k_Rng2, w_iEnum, k_Enum, w_Comp, k_Comp, k_AsL, w_TupRg, w_LstRg, k_TupRg, k_LstRg, w_Rev, k_Rev, rev_tup, rev_lst, k_Di1, k_PT1, k_PT2, w_Nil, w_Nop, w_Fl, w_Seq, k_Seqn, k_Seqr, k_Seqb, k_Seqc, w_Expr, k_Drop, w_Ret, k_Ret, w_Set, k_Set, w_Asg, k_Asg1, k_Nx, w_If, k_Ift, k_Iff, w_For, k_For, k_Put1, k_Put2, w_Fun, w_Fun0, k_Funn, k_Funr, w_newK, w_newT, asB_bl, gN, gTupD, gsCons, gsNil, wipeE, itemsOf, seqItems, len_str, add_ii, sub_ii, neg_i, lt_ii, le_ii, gt_ii, ge_ii, eq_ii, ne_ii, eq_ss, ne_ss, isnot_bb, is_bb, is_non, isnot_non, isNonD, ix_tupD, ix_lstD, ix_fzD, at_lit0, at_lit1, at_lit2, at_lit3, len_fz, len_lst, len_tup, List.map_cons, List.map_nil, List.length_cons, List.length_nil, List.getElem?_cons_zero, List.getElem?_cons_succ, List.set_cons_zero, List.set_cons_succ, List.cons_append, List.nil_append, List.replicate_succ, List.replicate_zero, Nat.reduceSub, Nat.reduceAdd, Nat.reduceLeDiff, if_true, if_false, Bool.false_eq_true, Bool.true_eq_false, Bool.not_true, Bool.not_false, Option.bind_some, Option.map_some, Nat.zero_add, ite_true, ite_false, Int.cast_ofNat_Int, Int.natCast_zero, Int.natCast_one, Int.reduceLT, Int.reduceLE, Int.reduceEq, Int.reduceAdd, Int.reduceSub, Int.reduceNeg, decide_true, decide_false, true_and, and_true, le_size, add_ll, add_tt, tuple_lst, tuple_tup, list_tup, list_lst, sl_tup, sl_lst, ii_non_int, ii_non_bool, ii_non_str, ii_non_tuple, ii_non_list, ii_non_dict, ii_bl_int, ii_bl_bool, ii_bl_str, ii_bl_tuple, ii_bl_list, ii_bl_dict, ii_int_int, ii_int_bool, ii_int_str, ii_int_tuple, ii_int_list, ii_int_dict, ii_str_int, ii_str_bool, ii_str_str, ii_str_tuple, ii_str_list, ii_str_dict, ii_tup_int, ii_tup_bool, ii_tup_str, ii_tup_tuple, ii_tup_list, ii_tup_dict, ii_lst_int, ii_lst_bool, ii_lst_str, ii_lst_tuple, ii_lst_list, ii_lst_dict, ii_fz_int, ii_fz_bool, ii_fz_str, ii_fz_tuple, ii_fz_list, ii_fz_dict] $l:location)
namespace G
/-! ### hands by hands -/
def levels {A : Type} (g : A → List A) : Nat → List A → List A
  | 0, _ => []
  | k + 1, l => l ++ levels g k (l.flatMap g)
section
variable {g : Call → List Call} {Q : Call → Prop} {N : Nat}
theorem levels_fm : ∀ (k : Nat) (l : List Call), (levels g k l).flatMap g = levels g k (l.flatMap g)
  | 0, _ => rfl
  | k + 1, l => by
    unfold levels
    rw [List.flatMap_append, levels_fm k]
theorem levels_more (hg : ∀ c, Q c → ∀ d ∈ g c, Q d ∧ c.1 < d.1) (hN : ∀ c, Q c → c.1 < N) : ∀ (k : Nat) (l : List Call), (∀ c ∈ l, Q c ∧ N ≤ c.1 + k) → levels g k l = levels g (k + 1) l
  | 0, [], _ => rfl
  | 0, c :: l, h => by
    obtain ⟨h1, h2⟩ := h c List.mem_cons_self
    have := hN c h1
    omega
  | k + 1, l, h => by
    have ih := levels_more hg hN k (l.flatMap g) fun d hd => by
      obtain ⟨c, hc, hcd⟩ := List.mem_flatMap.mp hd
      obtain ⟨h1, h2⟩ := h c hc
      obtain ⟨h3, h4⟩ := hg c h1 d hcd
      exact ⟨h3, by omega⟩
    show l ++ levels g k (l.flatMap g) = l ++ levels g (k + 1) (l.flatMap g)
    rw [ih]
theorem levels_Q (hg : ∀ c, Q c → ∀ d ∈ g c, Q d) : ∀ (k : Nat) (l : List Call), (∀ c ∈ l, Q c) → ∀ c ∈ levels g k l, Q c
  | 0, _, _, c, hc => absurd hc List.not_mem_nil
  | k + 1, l, h, c, hc => by
    rcases List.mem_append.mp hc with q | q
    · exact h c q
    · refine levels_Q hg k (l.flatMap g) (fun d hd => ?_) c q
      obtain ⟨c, hc, hcd⟩ := List.mem_flatMap.mp hd
      exact hg c (h c hc) d hcd
theorem fm_len (h2 : ∀ c, Q c → (g c).length ≤ 2) : ∀ (l : List Call), (∀ c ∈ l, Q c) → (l.flatMap g).length ≤ 2 * l.length
  | [], _ => Nat.le_refl _
  | c :: l, h => by
    have ih := fm_len h2 l fun x hx => h x (List.mem_cons_of_mem _ hx)
    have := h2 c (h c List.mem_cons_self)
    rw [List.flatMap_cons, List.length_append, List.length_cons]
    omega
theorem levels_len (hg : ∀ c, Q c → ∀ d ∈ g c, Q d) (h2 : ∀ c, Q c → (g c).length ≤ 2) : ∀ (k : Nat) (l : List Call), (∀ c ∈ l, Q c) → (levels g k l).length + l.length ≤ l.length * 2 ^ k
  | 0, l, _ => by
    show 0 + l.length ≤ l.length * 1
    omega
  | k + 1, l, h => by
    have hq : ∀ d ∈ l.flatMap g, Q d := fun d hd => by
      obtain ⟨c, hc, hcd⟩ := List.mem_flatMap.mp hd
      exact hg c (h c hc) d hcd
    have ih := levels_len hg h2 k (l.flatMap g) hq
    have f := fm_len h2 l h
    have m : (l.flatMap g).length * 2 ^ k ≤ 2 * l.length * 2 ^ k := Nat.mul_le_mul_right _ f
    have p : 1 ≤ 2 ^ k := Nat.one_le_two_pow
    have e : l.length * 2 ^ (k + 1) = 2 * l.length * 2 ^ k := by rw [Nat.pow_succ, Nat.mul_comm (2 ^ k) 2, ← Nat.mul_assoc, Nat.mul_comm l.length 2]
    show (l ++ levels g k (l.flatMap g)).length + l.length ≤ _
    rw [List.length_append, e]
    have : (levels g k (l.flatMap g)).length ≤ (l.flatMap g).length * 2 ^ k - (l.flatMap g).length := by omega
    -- (F * 2^k - F) + 2 l ≤ 2 l * 2^k, for F ≤ 2 l
    obtain ⟨q, hq2⟩ : ∃ q, 2 ^ k = q + 1 := ⟨2 ^ k - 1, by omega⟩
    rw [hq2] at this m ⊢
    have m1 : (l.flatMap g).length * (q + 1) = (l.flatMap g).length * q + (l.flatMap g).length := Nat.mul_succ _ _
    have m2 : 2 * l.length * (q + 1) = 2 * l.length * q + 2 * l.length := Nat.mul_succ _ _
    have m3 : (l.flatMap g).length * q ≤ 2 * l.length * q := Nat.mul_le_mul_right _ f
    omega
end
theorem sum_le {A : Type} (f : A → Nat) (m : Nat) : ∀ (l : List A), (∀ a ∈ l, f a ≤ m) → (l.map f).sum ≤ l.length * m
  | [], _ => Nat.zero_le _
  | a :: l, h => by
    have ih := sum_le f m l fun x hx => h x (List.mem_cons_of_mem _ hx)
    have := h a List.mem_cons_self
    rw [List.map_cons, List.sum_cons, List.length_cons, Nat.succ_mul]
    omega

/-! ### a house -/
structure Rows (b w many most : Nat) (cs : List Call) (ss : List (List Hd)) : Prop where
  eq : ss.length = cs.length
  le : cs.length ≤ many
  num : ∀ j c, cs[j]? = some c → c.1 + 1 + j = many
  mo : ∀ c ∈ cs, MemOk w c.2
  sc : ∀ j c s, cs[j]? = some c → ss[j]? = some s → ScOk b w c.2 (cs.take j) most s
theorem get_snoc {A : Type} {l : List A} {a x : A} {j : Nat} (h : (l ++ [a])[j]? = some x) : l[j]? = some x ∨ (j = l.length ∧ x = a) := by
  by_cases c : j < l.length
  · rw [List.getElem?_append_left c] at h
    exact .inl h
  · rw [List.getElem?_append_right (by omega)] at h
    have hj : j - l.length = 0 := by
      have := (List.getElem?_eq_some_iff.mp h).1
      rw [List.length_singleton] at this
      omega
    rw [hj] at h
    exact .inr ⟨by omega, (Option.some.inj h).symm⟩
theorem Rows.snoc {b w many most : Nat} {cs : List Call} {ss : List (List Hd)} {ms : Mem} {s : List Hd} (r : Rows b w many most cs ss) (hlt : cs.length < many) (mo : MemOk w ms) (so : ScOk b w ms cs most s) : Rows b w many most (cs ++ [(many - 1 - cs.length, ms)]) (ss ++ [s]) := by
  refine ⟨by rw [List.length_append, List.length_append, r.eq]; rfl, by rw [List.length_append, List.length_singleton]; omega, fun j c h => ?_, fun c hc => ?_, fun j c x h1 h2 => ?_⟩
  · rcases get_snoc h with q | ⟨q1, q2⟩
    · exact r.num j c q
    · subst q1 q2
      show many - 1 - cs.length + 1 + cs.length = many
      omega
  · rcases List.mem_append.mp hc with q | q
    · exact r.mo c q
    · rw [List.mem_singleton.mp q]; exact mo
  · rcases get_snoc h1 with q | ⟨q1, q2⟩
    · have hj := (List.getElem?_eq_some_iff.mp q).1
      rw [List.getElem?_append_left (by rw [r.eq]; exact hj)] at h2
      rw [List.take_append_of_le_length (by omega)]
      exact r.sc j c x q h2
    · rcases get_snoc h2 with p | ⟨p1, p2⟩
      · have hj := (List.getElem?_eq_some_iff.mp p).1
        rw [r.eq] at hj
        omega
      · subst q1 q2 p2
        rw [List.take_left]
        exact so
/-- a drawn house -/
structure Drawn (firsts most : Nat) (h : HH) : Prop where
  vd : h.Vd
  fn : h.Fn
  ca : ∃ A, Called h A
  b3 : h.b ≤ 3
  w3 : h.w ≤ 3
  s3 : h.ss.length ≤ 3
  f4 : h.fs.length ≤ firsts
  sl : ∀ s ∈ h.ss, s.length ≤ most
theorem says_w {v : Str} (h : v ∈ SAYS) : wordB (.str v) = true ∧ okS v := by
  unfold SAYS at h
  rcases List.mem_cons.mp h with q | q
  · subst q; exact ⟨by decide +kernel, okS_w (by decide +kernel)⟩
  rcases List.mem_cons.mp q with q | q
  · subst q; exact ⟨by decide +kernel, okS_w (by decide +kernel)⟩
  rcases List.mem_cons.mp q with q | q
  · subst q; exact ⟨by decide +kernel, okS_w (by decide +kernel)⟩
  rw [List.mem_singleton.mp q]
  exact ⟨by decide +kernel, okS_w (by decide +kernel)⟩
theorem rows_drawn {b w many firsts most : Nat} {cs : List Call} {ss : List (List Hd)} {fs : List Call} (r : Rows b w many most cs ss) (hl : cs.length = many) (hb : b ≤ 3) (hw : w ≤ 3) (hm : 1 ≤ many) (hm3 : many ≤ 3) (hf : ∀ c ∈ fs, c ∈ cs) (hf1 : 1 ≤ fs.length) (hf4 : fs.length ≤ firsts) (h4 : firsts ≤ 4) (hmo : most ≤ 6) : Drawn firsts most ⟨b, w, fs, ss.reverse⟩ := by
  have hsl : ss.length = many := r.eq.trans hl
  -- the script of a known calling
  have at1 : ∀ (j : Nat) (s : List Hd), ss.reverse[j]? = some s → ∃ i c, i + 1 + j = many ∧ ss[i]? = some s ∧ cs[i]? = some c ∧ c.1 = j := fun j s h => by
    have hj := (List.getElem?_eq_some_iff.mp h).1
    rw [List.length_reverse] at hj
    rw [List.getElem?_reverse hj] at h
    refine ⟨ss.length - 1 - j, cs[ss.length - 1 - j]'(by omega), by omega, h, List.getElem?_eq_getElem _, ?_⟩
    have := r.num (ss.length - 1 - j) _ (List.getElem?_eq_getElem (by omega))
    omega
  have at2 : ∀ (i : Nat) (c : Call), cs[i]? = some c → ∃ s, ss[i]? = some s ∧ ss.reverse[c.1]? = some s ∧ c.1 < many := fun i c h => by
    have hi := (List.getElem?_eq_some_iff.mp h).1
    have := r.num i c h
    refine ⟨ss[i]'(by omega), List.getElem?_eq_getElem _, ?_, by omega⟩
    rw [List.getElem?_reverse (by omega), show ss.length - 1 - c.1 = i by omega]
    exact List.getElem?_eq_getElem _
  have of_take : ∀ (i : Nat) (c : Call), c ∈ cs.take i → ∃ j, j < i ∧ cs[j]? = some c := fun i c h => by
    obtain ⟨j, hj⟩ := List.mem_iff_getElem?.mp h
    rw [List.getElem?_take] at hj
    by_cases q : j < i
    · rw [if_pos q] at hj; exact ⟨j, q, hj⟩
    · rw [if_neg q] at hj; cases hj
  let h : HH := ⟨b, w, fs, ss.reverse⟩
  have sAt : ∀ (i : Nat) (c : Call) (s : List Hd), cs[i]? = some c → ss[i]? = some s → scriptAt h c = s := fun i c s h1 h2 => by
    obtain ⟨s', h3, h4, _⟩ := at2 i c h1
    rw [h2] at h3
    cases h3
    show (ss.reverse[c.1]?).getD [] = s
    rw [h4]
    rfl
  have inCs : ∀ c ∈ cs, ∃ i s, cs[i]? = some c ∧ ss[i]? = some s ∧ scriptAt h c = s ∧ ScOk b w c.2 (cs.take i) most s := fun c hc => by
    obtain ⟨i, hi⟩ := List.mem_iff_getElem?.mp hc
    obtain ⟨s, h1, _, _⟩ := at2 i c hi
    exact ⟨i, s, hi, h1, sAt i c s hi h1, r.sc i c s hi h1⟩
  have stS : ∀ s ∈ ss.reverse, ∃ i c, ss[i]? = some s ∧ cs[i]? = some c ∧ ScOk b w c.2 (cs.take i) most s := fun s hs => by
    obtain ⟨j, hj⟩ := List.mem_iff_getElem?.mp hs
    obtain ⟨i, c, _, h1, h2, _⟩ := at1 j s hj
    exact ⟨i, c, h1, h2, r.sc i c s h2 h1⟩
  have sl6 : ∀ s ∈ ss.reverse, s.length ≤ most := fun s hs => by
    obtain ⟨i, c, _, _, so⟩ := stS s hs
    exact so.len
  refine ⟨⟨by show b ≤ 99; omega, by show w ≤ 6; omega, hf1, by show fs.length ≤ 40; omega, by show 1 ≤ ss.reverse.length; rw [List.length_reverse]; omega, by show ss.reverse.length ≤ 20; rw [List.length_reverse]; omega, fun s hs => by have := sl6 s hs; omega, fun j s hj e he => ?_, fun c hc => ?_⟩, ⟨fun c hc => mem_md (r.mo c (hf c hc)), fun s hs e he => ?_⟩, ⟨levels (fun c => begs (scriptAt h c)) many fs, ?_⟩, hb, hw, by show ss.reverse.length ≤ 3; rw [List.length_reverse]; omega, hf4, sl6⟩
  · obtain ⟨i, c, h1, h2, h3, h4⟩ := at1 j s hj
    have so := r.sc i c s h3 h2
    have st := so.st e he
    cases e with
    | beg s' ms' =>
      have hb1 : (s', ms') ∈ cs.take i := so.beg _ (List.mem_filterMap.mpr ⟨_, he, rfl⟩)
      obtain ⟨i', h5, h6⟩ := of_take i _ hb1
      have n1 := r.num i' _ h6
      have n2 := r.num i _ h3
      refine ⟨?_, ?_, (r.mo _ (List.mem_of_getElem? h6)).b⟩
      · show j < s'
        have : s' + 1 + i' = many := n1
        omega
      · show s' < ss.reverse.length
        rw [List.length_reverse]
        have : s' + 1 + i' = many := n1
        omega
    | rai k x => exact st
    | awa k x => exact st
    | work x => exact st
    | say x => exact (says_w st).1
    | com x => exact st
    | go x => exact st
    | lve x => exact st
  · obtain ⟨i, hi⟩ := List.mem_iff_getElem?.mp (hf c hc)
    obtain ⟨s, _, _, h3⟩ := at2 i c hi
    refine ⟨?_, (r.mo c (hf c hc)).b⟩
    show c.1 < ss.reverse.length
    rw [List.length_reverse]
    omega
  · obtain ⟨i, c, h1, h2, so⟩ := stS s hs
    have st := so.st e he
    cases e with
    | beg s' ms' =>
      have hb1 : (s', ms') ∈ cs.take i := so.beg _ (List.mem_filterMap.mpr ⟨_, he, rfl⟩)
      exact mem_md (r.mo _ (List.mem_of_mem_take hb1))
    | say x => exact (says_w st).2
    | _ => exact trivial
  · have hg : ∀ c, c ∈ cs → ∀ d ∈ begs (scriptAt h c), d ∈ cs ∧ c.1 < d.1 := fun c hc d hd => by
      obtain ⟨i, s, h1, h2, h3, so⟩ := inCs c hc
      rw [h3] at hd
      obtain ⟨i', h5, h6⟩ := of_take i _ (so.beg d hd)
      have n1 := r.num i' _ h6
      have n2 := r.num i _ h1
      exact ⟨List.mem_of_getElem? h6, by omega⟩
    have hN : ∀ c, c ∈ cs → c.1 < many := fun c hc => by
      obtain ⟨i, hi⟩ := List.mem_iff_getElem?.mp hc
      have := r.num i c hi
      omega
    have h2 : ∀ c, c ∈ cs → (begs (scriptAt h c)).length ≤ 2 := fun c hc => by
      obtain ⟨i, s, h1, h2, h3, so⟩ := inCs c hc
      rw [h3]
      exact so.two
    have inA := levels_Q (g := fun c => begs (scriptAt h c)) (Q := fun c => c ∈ cs) (fun c hc d hd => (hg c hc d hd).1) many fs hf
    have lenA := levels_len (g := fun c => begs (scriptAt h c)) (Q := fun c => c ∈ cs) (fun c hc d hd => (hg c hc d hd).1) h2 many fs hf
    have l28 : (levels (fun c => begs (scriptAt h c)) many fs).length ≤ 28 := by
      have p : 2 ^ many ≤ 8 := by
        have : 2 ^ many ≤ 2 ^ 3 := Nat.pow_le_pow_right (by decide) hm3
        exact this
      have : fs.length * 2 ^ many ≤ fs.length * 8 := Nat.mul_le_mul_left _ p
      omega
    have scL : ∀ c ∈ levels (fun c => begs (scriptAt h c)) many fs, (scriptAt h c).length ≤ 6 := fun c hc => by
      obtain ⟨i, s, h1, h2, h3, so⟩ := inCs c (inA c hc)
      have := so.len
      rw [h3]
      omega
    refine ⟨?_, by omega, ?_, fun c hc => ?_, fun c hc => ?_, fun c hc => (r.mo c (inA c hc)).nd, fun c hc => ?_, fun s hs => by have := sl6 s hs; omega⟩
    · have e := levels_more (g := fun c => begs (scriptAt h c)) (Q := fun c => c ∈ cs) (N := many) hg hN many fs fun c hc => ⟨hf c hc, by omega⟩
      rw [levels_fm]
      exact e
    · have := sum_le (fun c => (scriptAt h c).length) 6 _ scL
      refine Nat.le_trans this ?_
      omega
    · show c.1 < ss.reverse.length
      rw [List.length_reverse, hsl]
      exact hN c (inA c hc)
    · obtain ⟨i, s, h1, h2, h3, so⟩ := inCs c (inA c hc)
      rw [show scriptAt _ c = s from h3]
      exact so.fit
    · have := (r.mo c (inA c hc)).len_le
      omega
theorem rev_ref {S : Sto} {n : Nat} {ds : List D} (h : S[n]? = some (.lst ds)) : oRev S (.ref n) = some (.lst ds.reverse) := by
  show (listOf S (.ref n)).map (fun ds => D.lst ds.reverse) = _
  rw [list_ref h]
  rfl
theorem calls_each {cs : List Call} {xs ys : List D} (a : All2 (fun (_ : D) (y : D) => ∃ c ∈ cs, y = callD c) xs ys) : ∃ fs : List Call, ys = fs.map callD ∧ fs.length = xs.length ∧ ∀ c ∈ fs, c ∈ cs := by
  induction a with
  | nil => exact ⟨[], rfl, rfl, fun c hc => absurd hc List.not_mem_nil⟩
  | cons r _ ih =>
    obtain ⟨c, hc, e⟩ := r
    obtain ⟨fs, e2, e3, e4⟩ := ih
    refine ⟨c :: fs, by rw [e, e2]; rfl, by rw [List.length_cons, List.length_cons, e3], fun x hx => ?_⟩
    rcases List.mem_cons.mp hx with q | q
    · rw [q]; exact hc
    · exact e4 x q
theorem rng_len (lo : Int) (k : Nat) : (rngL lo k).length = k := by
  unfold rngL
  rw [List.length_map, List.length_range]
theorem house_draw {ns : List Int} {n scripts firsts most : Nat} {S : Sto} {P : D → Sto → Prop} (h : DK ns n S) (hs1 : 1 ≤ scripts) (hs3 : scripts ≤ 3) (hf1 : 1 ≤ firsts) (hf4 : firsts ≤ 4) (hmo : most ≤ 6) (k : ∀ h S', Drawn firsts most h → Dr ns n S S' → P h.d S') : Wp (f__law_b_house [.ref n, .int (scripts : Int), .int (firsts : Int), .int (most : Int)] S) P := by
  have hn := h.lt
  unfold f__law_b_house d__law_b_house
  simp_arith
  refine digit_wp h (by decide) (by decide) fun b S1 b1 b2 dr1 l1 => ?_
  simp_arith
  refine digit_wp dr1.dk (by decide) (by decide) fun w S2 w1 w2 dr2 l2 => ?_
  simp_arith
  refine digit_wp dr2.dk (by omega) (by omega) fun y S3 y1 y2 dr3 l3 => ?_
  obtain ⟨b, rfl⟩ : ∃ b' : Nat, b = (b' : Int) := ⟨b.toNat, by omega⟩
  obtain ⟨w, rfl⟩ : ∃ b' : Nat, w = (b' : Int) := ⟨w.toNat, by omega⟩
  obtain ⟨many, hmany⟩ : ∃ b' : Nat, 1 + y = (b' : Int) := ⟨(1 + y).toNat, by omega⟩
  have hL : (S3 ++ [Cell.lst []]).length = S3.length + 1 := by rw [List.length_append]; rfl
  simp_arith [hmany, rng1_int (show (0 : Int) ≤ (many : Int) by omega) (by omega), Int.toNat_natCast, hL]
  have dr0 : Dr ns n S (S3 ++ [.lst []] ++ [.lst []]) := (((dr1.trans dr2).trans dr3).app _).app _
  refine forGo_wp (fun rest env T => ∃ (cs : List Call) (ss : List (List Hd)) (e9 e10 : Option D), rest = rngL (cs.length : Int) (many - cs.length) ∧ env = [some (.ref n), some (.int (scripts : Int)), some (.int (firsts : Int)), some (.int (most : Int)), some (.int (b : Int)), some (.int (w : Int)), some (.int (many : Int)), some (.ref S3.length), some (.ref (S3.length + 1)), e9, e10, none] ∧
      T[S3.length]? = some (.lst (cs.map callD)) ∧ T[S3.length + 1]? = some (.lst (ss.map hsD)) ∧ Rows b w many most cs ss ∧ Dr ns n S T) _ _ _
    ⟨[], [], none, none, rfl, rfl, by rw [List.getElem?_append_left (by omega)]; exact app_at _ _, by rw [← hL]; exact app_at _ _, ⟨rfl, Nat.zero_le _, fun j c h => by simp at h, fun c hc => absurd hc List.not_mem_nil, fun j c s h => by simp at h⟩, dr0⟩ (fun d rest env T hI => ?_) fun env T hI => ?_
  · obtain ⟨cs, ss, e9, e10, er, e, hTc, hTs, r, dr⟩ := hI
    have hlt : cs.length < many := by
      refine Nat.lt_of_not_le fun q => ?_
      rw [show many - cs.length = 0 by omega] at er
      cases er
    rw [show many - cs.length = (many - (cs.length + 1)) + 1 by omega, rng_succ] at er
    obtain ⟨ed, er2⟩ := List.cons.inj er
    subst e ed
    refine ⟨_, rfl, ?_⟩
    simp_arith
    refine drawmem_wp dr.dk (by omega) fun ms T2 mo dr2' => ?_
    have hTc2 := dr2'.kp _ _ (by omega) hTc
    have hTs2 := dr2'.kp _ _ (by omega) hTs
    simp_arith
    refine w_App ?_
    simp_arith
    refine k_App hTs2 ?_
    simp_arith
    refine script_draw dr2'.dk hTc2 (by omega) mo (by omega) (by omega) (by omega) (by omega) r.mo fun s T3 so dr3' => ?_
    have hTc3 := dr3'.kp _ _ (by omega) hTc2
    have hTs3 := dr3'.kp _ _ (by omega) hTs2
    have hsl : (ss.map hsD).length < sizeLine := by rw [List.length_map, sizeLine_eq, r.eq]; omega
    refine ⟨_, hTs3, hsl, ?_⟩
    have hTc4 : (T3.set (S3.length + 1) (.lst (ss.map hsD ++ [hsD s])))[S3.length]? = some (.lst (cs.map callD)) := by rw [List.getElem?_set_ne (by omega)]; exact hTc3
    simp_arith
    refine w_App ?_
    simp_arith
    refine k_App hTc4 ?_
    simp_arith
    refine ⟨_, hTc4, by rw [List.length_map, sizeLine_eq]; omega, ?_⟩
    simp_arith
    refine ⟨cs ++ [(many - 1 - cs.length, ms)], ss ++ [s], _, _, ?_, rfl, ?_, ?_, r.snoc hlt mo so, (((dr.trans dr2').trans dr3').put _ (by omega) (by have := dr3.len; have := dr2.len; have := dr1.len; omega)).put _ (by omega) (by have := dr3.len; have := dr2.len; have := dr1.len; omega)⟩
    · rw [List.length_append, List.length_singleton]
      exact er2
    · rw [set_get hTc4, List.map_append]
      congr 4
      show D.tup [.int ((many : Int) - 1 - (cs.length : Int)), memD ms] = D.tup [.int ((many - 1 - cs.length : Nat) : Int), memD ms]
      rw [show ((many - 1 - cs.length : Nat) : Int) = (many : Int) - 1 - (cs.length : Int) by omega]
    · rw [List.getElem?_set_ne (by omega), set_get hTs3, List.map_append]
      rfl
  · obtain ⟨cs, ss, e9, e10, er, e, hTc, hTs, r, dr⟩ := hI
    have hcl : cs.length = many := by
      refine Nat.le_antisymm r.le (Nat.le_of_not_lt fun q => ?_)
      rw [show many - cs.length = (many - (cs.length + 1)) + 1 by omega, rng_succ] at er
      cases er
    subst e
    simp_arith
    refine digit_wp dr.dk (by omega) (by omega) fun z T2 z1 z2 dr2' _ => ?_
    have hTc2 := dr2'.kp _ _ (by omega) hTc
    have hTs2 := dr2'.kp _ _ (by omega) hTs
    obtain ⟨m, hm⟩ : ∃ b' : Nat, 1 + z = (b' : Int) := ⟨(1 + z).toNat, by omega⟩
    simp_arith [hm, rng1_int (show (0 : Int) ≤ (m : Int) by omega) (by omega), Int.toNat_natCast]
    refine compGo_each (fun T => T[S3.length]? = some (.lst (cs.map callD)) ∧ T[S3.length + 1]? = some (.lst (ss.map hsD)) ∧ Dr ns n S T) (fun (_ : D) (y : D) => ∃ c ∈ cs, y = callD c) ⟨hTc2, hTs2, dr.trans dr2'⟩ (by rw [rng_len, sizeLine_eq]; omega) (fun d hd T hT => ?_) fun ys T a hT => ?_
    · obtain ⟨t1, t2, t3⟩ := hT
      refine ⟨_, rfl, ?_⟩
      simp_arith
      refine some_wp t3.dk (.inr ⟨_, rfl, by omega, t1⟩) (fun e => ?_) (by rw [List.length_map]; omega) fun d hd T' dr' _ => ?_
      · have := congrArg List.length e
        rw [List.length_map, hcl] at this
        have : many = 0 := this
        omega
      · obtain ⟨c, hc, e⟩ := List.mem_map.mp hd
        exact ⟨⟨dr'.kp _ _ (by omega) t1, dr'.kp _ _ (by omega) t2, t3.trans dr'⟩, c, hc, e.symm⟩
    · obtain ⟨t1, t2, t3⟩ := hT
      obtain ⟨fs, ey, el, hfs⟩ := calls_each a
      rw [rng_len] at el
      subst ey
      simp_arith [rev_ref t2]
      have dd := rows_drawn r hcl (by omega) (by omega) (by omega) (by omega) hfs (by omega) (show fs.length ≤ firsts by omega) hf4 hmo
      have := k _ T dd t3
      dsimp only [HH.d] at this
      rw [List.map_reverse] at this
      exact this

end G
end DL
end L2

set_option Elab.async false
set_option linter.all false
set_option maxRecDepth 100000
namespace L2
namespace DL
open PySem PySem.Spec PyProof.Rows
local macro_rules
  | `(tactic| simp_arith [$ls,*]) => `(tactic| simp only [wps, w_C, w_Var, k_Var, w_Bin, k_Bin1, k_Bin2, w_Tst, k_B, w_Chain, k_Ch1, k_Ch2, k_Ch3t, k_Ch3f, k_Ch4, w_And, w_Or, w_Not, k_Andt, k_Andf, k_Ort, k_Orf, k_Not, w_bAnd, w_bOr, w_bNot, w_bYes, k_bAndt, k_bAndf, k_bOrt, k_bOrf, k_bNot, w_dIf, k_dIft, k_dIff, w_aNil, w_aCons, k_Cons1, k_Cons2, w_Tup, w_Lst, w_Cell, k_Tup, k_Lst, k_Cell, w_Call, k_Call, w_CallF, k_CallF, w_CallN, k_CallN, k_New, k_AddN1, w_Un, k_Un, w_Sl, k_Sl1, k_Sl2, k_Sl3, w_No, w_So, k_So, w_iSeq, k_Items, w_Range1, w_Range2, k_Rng1, k_Rng2, w_iEnum, k_Enum, w_Comp, k_Comp, k_AsL, w_TupRg, w_LstRg, k_TupRg, k_LstRg, w_Rev, k_Rev, rev_tup, rev_lst, k_Di1, k_PT1, k_PT2, w_Nil, w_Nop, w_Fl, w_Seq, k_Seqn, k_Seqr, k_Seqb, k_Seqc, w_Expr, k_Drop, w_Ret, k_Ret, w_Set, k_Set, w_Asg, k_Asg1, k_Nx, w_If, k_Ift, k_Iff, w_For, k_For, k_Put1, k_Put2, w_Fun, w_Fun0, k_Funn, k_Funr, w_newK, w_newT, asB_bl, gN, gTupD, gsCons, gsNil, wipeE, itemsOf, seqItems, len_str, add_ii, sub_ii, neg_i, lt_ii, le_ii, gt_ii, ge_ii, eq_ii, ne_ii, eq_ss, ne_ss, isnot_bb, is_bb, is_non, isnot_non, isNonD, ix_tupD, ix_lstD, ix_fzD, at_lit0, at_lit1, at_lit2, at_lit3, len_fz, len_lst, len_tup, List.map_cons, List.map_nil, List.length_cons, List.length_nil, List.getElem?_cons_zero, List.getElem?_cons_succ, List.set_cons_zero, List.set_cons_succ, List.cons_append, List.nil_append, List.replicate_succ, List.replicate_zero, Nat.reduceSub, Nat.reduceAdd, Nat.reduceLeDiff, if_true, if_false, Bool.false_eq_true, Bool.true_eq_false, Bool.not_true, Bool.not_false, Option.bind_some, Option.map_some, Nat.zero_add, ite_true, ite_false, Int.cast_ofNat_Int, Int.natCast_zero, Int.natCast_one, Int.reduceLT, Int.reduceLE, Int.reduceEq, Int.reduceAdd, Int.reduceSub, Int.reduceNeg, decide_true, decide_false, true_and, and_true, le_size, add_ll, add_tt, tuple_lst, tuple_tup, list_tup, list_lst, sl_tup, sl_lst, ii_non_int, ii_non_bool, ii_non_str, ii_non_tuple, ii_non_list, ii_non_dict, ii_bl_int, ii_bl_bool, ii_bl_str, ii_bl_tuple, ii_bl_list, ii_bl_dict, ii_int_int, ii_int_bool, ii_int_str, ii_int_tuple, ii_int_list, ii_int_dict, ii_str_int, ii_str_bool, ii_str_str, ii_str_tuple, ii_str_list, ii_str_dict, ii_tup_int, ii_tup_bool, ii_tup_str, ii_tup_tuple, ii_tup_list, ii_tup_dict, ii_lst_int, ii_lst_bool, ii_lst_str, ii_lst_tuple, ii_lst_list, ii_lst_dict, ii_fz_int, ii_fz_bool, ii_fz_str, ii_fz_tuple, ii_fz_list, ii_fz_dict, $ls,*])
  | `(tactic| simp_arith) => `(tactic| simp only [wps, w_C, w_Var, k_Var, w_Bin, k_Bin1, k_Bin2, w_Tst, k_B, w_Chain, k_Ch1, k_Ch2, k_Ch3t, k_Ch3f, k_Ch4, w_And, w_Or, w_Not, k_Andt, k_Andf, k_Ort, k_Orf, k_Not, w_bAnd, w_bOr, w_bNot, w_bYes, k_bAndt, k_bAndf, k_bOrt, k_bOrf, k_bNot, w_dIf, k_dIft, k_dIff, w_aNil, w_aCons, k_Cons1, k_Cons2, w_Tup, w_Lst, w_Cell, k_Tup, k_Lst, k_Cell, w_Call, k_Call, w_CallF, k_CallF, w_CallN, k_CallN, k_New, k_AddN1, w_Un, k_Un, w_Sl, k_Sl1, k_Sl2, k_Sl3, w_No, w_So, k_So, w_iSeq, k_Items, w_Range1, w_Range2, k_Rng1, k_Rng2, w_iEnum, k_Enum, w_Comp, k_Comp, k_AsL, w_TupRg, w_LstRg, k_TupRg, k_LstRg, w_Rev, k_Rev, rev_tup, rev_lst, k_Di1, k_PT1, k_PT2, w_Nil, w_Nop, w_Fl, w_Seq, k_Seqn, k_Seqr, k_Seqb, k_Seqc, w_Expr, k_Drop, w_Ret, k_Ret, w_Set, k_Set, w_Asg, k_Asg1, k_Nx, w_If, k_Ift, k_Iff, w_For, k_For, k_Put1, k_Put2, w_Fun, w_Fun0, k_Funn, k_Funr, w_newK, w_newT, asB_bl, gN, gTupD, gsCons, gsNil, wipeE, itemsOf, seqItems, len_str, add_ii, sub_ii, neg_i, lt_ii, le_ii, gt_ii, ge_ii, eq_ii, ne_ii, eq_ss, ne_ss, isnot_bb, is_bb, is_non, isnot_non, isNonD, ix_tupD, ix_lstD, ix_fzD, at_lit0, at_lit1, at_lit2, at_lit3, len_fz, len_lst, len_tup, List.map_cons, List.map_nil, List.length_cons, List.length_nil, List.getElem?_cons_zero, List.getElem?_cons_succ, List.set_cons_zero, List.set_cons_succ, List.cons_append, List.nil_append, List.replicate_succ, List.replicate_zero, Nat.reduceSub, Nat.reduceAdd, Nat.reduceLeDiff, if_true, if_false, Bool.false_eq_true, Bool.true_eq_false, Bool.not_true, Bool.not_false, Option.bind_some, Option.map_some, Nat.zero_add, ite_true, ite_false, Int.cast_ofNat_Int, Int.natCast_zero, Int.natCast_one, Int.reduceLT, Int.reduceLE, Int.reduceEq, Int.reduceAdd, Int.reduceSub, Int.reduceNeg, decide_true, decide_false, true_and, and_true, le_size, add_ll, add_tt, tuple_lst, tuple_tup, list_tup, list_lst, sl_tup, sl_lst, ii_non_int, ii_non_bool, ii_non_str, ii_non_tuple, ii_non_list, ii_non_dict, ii_bl_int, ii_bl_bool, ii_bl_str, ii_bl_tuple, ii_bl_list, ii_bl_dict, ii_int_int, ii_int_bool, ii_int_str, ii_int_tuple, ii_int_list, ii_int_dict, ii_str_int, ii_str_bool, ii_str_str, ii_str_tuple, ii_str_list, ii_str_dict, ii_tup_int, ii_tup_bool, ii_tup_str, ii_tup_tuple, ii_tup_list, ii_tup_dict, ii_lst_int, ii_lst_bool, ii_lst_str, ii_lst_tuple, ii_lst_list, ii_lst_dict, ii_fz_int, ii_fz_bool, ii_fz_str, ii_fz_tuple, ii_fz_list, ii_fz_dict])
  | `(tactic| simp_arith [$ls,*] $l:location) => `(tactic| simp only [wps, w_C, w_Var, k_Var, w_Bin, k_Bin1, k_Bin2, w_Tst, k_B, w_Chain, k_Ch1, k_Ch2, k_Ch3t, k_Ch3f, k_Ch4, w_And, w_Or, w_Not, k_Andt, k_Andf, k_Ort, k_Orf, k_Not, w_bAnd, w_bOr, w_bNot, w_bYes, k_bAndt, k_bAndf, k_bOrt, k_bOrf, k_bNot, w_dIf, k_dIft, k_dIff, w_aNil, w_aCons, k_Cons1, k_Cons2, w_Tup, w_Lst, w_Cell, k_Tup, k_Lst, k_Cell, w_Call, k_Call, w_CallF, k_CallF, w_CallN, k_CallN, k_New, k_AddN1, w_Un, k_Un, w_Sl, k_Sl1, k_Sl2, k_Sl3, w_No, w_So, k_So, w_iSeq, k_Items, w_Range1, w_Range2, k_Rng1, k_Rng2, w_iEnum, k_Enum, w_Comp, k_Comp, k_AsL, w_TupRg, w_LstRg, k_TupRg, k_LstRg, w_Rev, k_Rev, rev_tup, rev_lst, k_Di1, k_PT1, k_PT2, w_Nil, w_Nop, w_Fl, w_Seq, k_Seqn, k_Seqr, k_Seqb, k_Seqc, w_Expr, k_Drop, w_Ret, k_Ret, w_Set, k_Set, w_Asg, k_Asg1, k_Nx, w_If, k_Ift, k_Iff, w_For, k_For, k_Put1, k_Put2, w_Fun, w_Fun0, k_Funn, k_Funr, w_newK, w_newT, asB_bl, gN, gTupD, gsCons, gsNil, wipeE, itemsOf, seqItems, len_str, add_ii, sub_ii, neg_i, lt_ii, le_ii, gt_ii, ge_ii, eq_ii, ne_ii, eq_ss, ne_ss, isnot_bb, is_bb, is_non, isnot_non, isNonD, ix_tupD, ix_lstD, ix_fzD, at_lit0, at_lit1, at_lit2, at_lit3, len_fz, len_lst, len_tup, List.map_cons, List.map_nil, List.length_cons, List.length_nil, List.getElem?_cons_zero, List.getElem?_cons_succ, List.set_cons_zero, List.set_cons_succ, List.cons_append, List.nil_append, List.replicate_succ, List.replicate_zero, Nat.reduceSub, Nat.reduceAdd, Nat.reduceLeDiff, if_true, if_false, Bool.false_eq_true, Bool.true_eq_false, Bool.not_true, Bool.not_false, Option.bind_some, Option.map_some, Nat.zero_add, ite_true, ite_false, Int.cast_ofNat_Int, Int.natCast_zero, Int.natCast_one, Int.reduceLT, Int.reduceLE, Int.reduceEq, Int.reduceAdd, Int.reduceSub, Int.reduceNeg, decide_true, decide_false, true_and, and_true, le_size, add_ll, add_tt, tuple_lst, tuple_tup, list_tup, list_lst, sl_tup, sl_lst, ii_non_int, ii_non_bool, ii_non_str, ii_non_tuple, ii_non_list, ii_non_dict, ii_bl_int, ii_bl_bool, ii_bl_str, ii_bl_tuple, ii_bl_list, ii_bl_dict, ii_int_int, ii_int_bool, ii_int_str, ii_int_tuple, ii_int_list, ii_int_dict, ii_str_int, ii_str_bool, ii_str_str, ii_str_tuple, ii_str_list, ii_str_dict, ii_tup_int, ii_tup_bool, ii_tup_str, ii_tup_tuple, ii_tup_list, ii_tup_dict, ii_lst_int, ii_lst_bool, ii_lst_str, ii_lst_tuple, ii_lst_list, ii_lst_dict, ii_fz_int, ii_fz_bool, ii_fz_str, ii_fz_tuple, ii_fz_list, ii_fz_dict, $ls,*] $l:location)
  | `(tactic| simp_arith $l:location) => `(tactic| simp only [wps, w_C, w_Var, k_Var, w_Bin, k_Bin1, k_Bin2, w_Tst, k_B, w_Chain, k_Ch1, k_Ch2, k_Ch3t, k_Ch3f, k_Ch4, w_And, w_Or, w_Not, k_Andt, k_Andf, k_Ort, k_Orf, k_Not, w_bAnd, w_bOr, w_bNot, w_bYes, k_bAndt, k_bAndf, k_bOrt, k_bOrf, k_bNot, w_dIf, k_dIft, k_dIff, w_aNil, w_aCons, k_Cons1, k_Cons2, w_Tup, w_Lst, w_Cell, k_Tup, k_Lst, k_Cell, w_Call, k_Call, w_CallF, k_CallF, w_CallN, k_CallN, k_New, k_AddN1, w_Un, k_Un, w_Sl, k_Sl1, k_Sl2, k_Sl3, w_No, w_So, k_So, w_iSeq, k_Items, w_Range1, w_Range2, k_Rng1, k_Rng2, w_iEnum, k_Enum, w_Comp, k_Comp, k_AsL, w_TupRg, w_LstRg, k_TupRg, k_LstRg, w_Rev, k_Rev, rev_tup, rev_lst, k_Di1, k_PT1, k_PT2, w_Nil, w_Nop, w_Fl, w_Seq, k_Seqn, k_Seqr, k_Seqb, k_Seqc, w_Expr, k_Drop, w_Ret, k_Ret, w_Set, k_Set, w_Asg, k_Asg1, k_Nx, w_If, k_Ift, k_Iff, w_For, k_For, k_Put1, k_Put2, w_Fun, w_Fun0, k_Funn, k_Funr, w_newK, w_newT, asB_bl, gN, gTupD, gsCons, gsNil, wipeE, itemsOf, seqItems, len_str, add_ii, sub_ii, neg_i, lt_ii, le_ii, gt_ii, ge_ii, eq_ii, ne_ii, eq_ss, ne_ss, isnot_bb, is_bb, is_non, isnot_non, isNonD, ix_tupD, ix_lstD, ix_fzD, at_lit0, at_lit1, at_lit2, at_lit3, len_fz, len_lst, len_tup, List.map_cons, List.map_nil, List.length_cons, List.length_nil, List.getElem?_cons_zero, List.getElem?_cons_succ, List.set_cons_zero, List.set_cons_succ, List.cons_append, List.nil_append, List.replicate_succ, List.replicate_zero, Nat.reduceSub, Nat.reduceAdd, Nat.reduceLeDiff, if_true, if_false, Bool.false_eq_true, Bool.true_eq_false, Bool.not_true, Bool.not_false, Option.bind_some, Option.map_some, Nat.zero_add, ite_true, ite_false, Int.cast_ofNat_Int, Int.natCast_zero, Int.natCast_one, Int.reduceLT, Int.reduceLE, Int.reduceEq, Int.reduceAdd, Int.reduceSub, Int.reduceNeg, decide_true, decide_false, true_and, and_true, le_size, add_ll, add_tt, tuple_lst, tuple_tup, list_tup, list_lst, sl_tup, sl_lst, ii_non_int, ii_non_bool, ii_non_str, ii_non_tuple, ii_non_list, ii_non_dict, ii_bl_int, ii_bl_bool, ii_bl_str, ii_bl_tuple, ii_bl_list, ii_bl_dict, ii_int_int, ii_int_bool, ii_int_str, ii_int_tuple, ii_int_list, ii_int_dict, ii_str_int, ii_str_bool, ii_str_str, ii_str_tuple, ii_str_list, ii_str_dict, ii_tup_int, ii_tup_bool, ii_tup_str, ii_tup_tuple, ii_tup_list, ii_tup_dict, ii_lst_int, ii_lst_bool, ii_lst_str, ii_lst_tuple, ii_lst_list, ii_lst_dict, ii_fz_int, ii_fz_bool, ii_fz_str, ii_fz_tuple, ii_fz_list, ii_fz_dict] $l:location)
namespace G
/-! ### all that are called -/
theorem memGo_ok {w : Nat} : ∀ {ms : Mem} {last : Int}, membersGo w last (ms.map memI) = true → ms.Pairwise (fun p q => p.1 < q.1) ∧ (∀ p ∈ ms, p.1 < w ∧ p.2 ∈ MD ∧ last < (p.1 : Int))
  | [], _, _ => ⟨.nil, fun p hp => absurd hp List.not_mem_nil⟩
  | p :: ms, last, h => by
    have h' : (memberB w last (memI p) && membersGo w (numOf (memI p)) (ms.map memI)) = true := h
    rw [Bool.and_eq_true] at h'
    obtain ⟨h1, h2⟩ := h'
    obtain ⟨i1, i2⟩ := memGo_ok h2
    have h1' : ((decide (last + 1 ≤ (p.1 : Int)) && decide ((p.1 : Int) ≤ (w : Int) - 1)) && decide (p.2 ∈ MD)) = true := h1
    rw [Bool.and_eq_true, Bool.and_eq_true, decide_eq_true_eq, decide_eq_true_eq, decide_eq_true_eq] at h1'
    obtain ⟨⟨a1, a2⟩, a3⟩ := h1'
    have hn : numOf (memI p) = (p.1 : Int) := rfl
    refine ⟨List.pairwise_cons.mpr ⟨fun q hq => by have := (i2 q hq).2.2; omega, i1⟩, fun q hq => ?_⟩
    rcases List.mem_cons.mp hq with e | e
    · rw [e]; exact ⟨by omega, a3, by omega⟩
    · obtain ⟨b1, b2, b3⟩ := i2 q e
      exact ⟨b1, b2, by omega⟩
theorem MemOk.of {w : Nat} {ms : Mem} (h : membersB w (memD ms) = true) : MemOk w ms := by
  obtain ⟨h1, h2⟩ := memGo_ok (last := -1) (show membersGo w (-1) (ms.map memI) = true from h)
  exact ⟨h1, fun p hp => (h2 p hp).1, fun p hp => (h2 p hp).2.1⟩
def begsOf (h : HH) (c : Call) : List Call := begs (scriptAt h c)
structure Calls (h : HH) (A : List Call) : Prop where
  eq : A = h.fs ++ A.flatMap fun c => begs (scriptAt h c)
  lt : ∀ c ∈ A, c.1 < h.ss.length
  nd : ∀ c ∈ A, (c.2.map (·.1)).Nodup
  ml : ∀ c ∈ A, c.2.length ≤ 10
  sl : ∀ s ∈ h.ss, s.length ≤ 80
  up : ∀ c ∈ A, ∀ d ∈ begs (scriptAt h c), c.1 < d.1
def GoodC (h : HH) (c : Call) : Prop := c.1 < h.ss.length ∧ MemOk h.w c.2
def allC (h : HH) : List Call := levels (begsOf h) h.ss.length h.fs
theorem goodC_up {h : HH} (v : h.Vd) {c : Call} (hc : GoodC h c) : ∀ d ∈ begsOf h c, GoodC h d ∧ c.1 < d.1 := fun d hd => by
  obtain ⟨s, hs⟩ : ∃ s, h.ss[c.1]? = some s := ⟨_, List.getElem?_eq_getElem hc.1⟩
  have e : scriptAt h c = s := by unfold scriptAt; rw [hs]; rfl
  unfold begsOf at hd
  rw [e] at hd
  obtain ⟨x, hx, ex⟩ := List.mem_filterMap.mp hd
  cases x with
  | beg i m =>
    cases ex
    obtain ⟨v1, v2, v3⟩ := v.sd c.1 s hs _ hx
    exact ⟨⟨v2, .of v3⟩, v1⟩
  | _ => cases ex
theorem goodC_fs {h : HH} (v : h.Vd) : ∀ c ∈ h.fs, GoodC h c := fun c hc => ⟨(v.fc c hc).1, .of (v.fc c hc).2⟩
theorem goodC_all {h : HH} (v : h.Vd) : ∀ c ∈ allC h, GoodC h c :=
  levels_Q (fun c hc d hd => (goodC_up v hc d hd).1) _ _ (goodC_fs v)
theorem levels_one {h : HH} (v : h.Vd) {l : List Call} (hl : ∀ c ∈ l, GoodC h c) : levels (begsOf h) h.ss.length l = levels (begsOf h) (h.ss.length + 1) l :=
  levels_more (fun c hc d hd => goodC_up v hc d hd) (fun c hc => hc.1) _ _ fun c hc => ⟨hl c hc, Nat.le_add_left _ _⟩
theorem calls_vd {h : HH} (v : h.Vd) : Calls h (allC h) := by
  have good := goodC_all v
  have hw := v.w
  refine ⟨?_, fun c hc => (good c hc).1, fun c hc => (good c hc).2.nd, fun c hc => by have := (good c hc).2.len_le; omega, v.sl, fun c hc d hd => (goodC_up v (good c hc) d hd).2⟩
  have e := levels_one v (goodC_fs v)
  show levels (begsOf h) h.ss.length h.fs = h.fs ++ (levels (begsOf h) h.ss.length h.fs).flatMap (begsOf h)
  rw [levels_fm]
  exact e
def wellB (h : HH) (A : List Call) : Bool := decide (A.length ≤ 60) && decide ((A.map fun c => (scriptAt h c).length).sum ≤ 1200) && A.all fun c => fits c.2 (scriptAt h c)
theorem no_loop {g : Call → List Call} {N : Nat} {Y : List Call} (e : Y = Y.flatMap g) (up : ∀ c ∈ Y, ∀ d ∈ g c, c.1 < d.1) (hN : ∀ c ∈ Y, c.1 < N) : Y = [] := by
  have h : ∀ n : Nat, ∀ c ∈ Y, n ≤ c.1 := by
    intro n
    induction n with
    | zero => exact fun _ _ => Nat.zero_le _
    | succ n ih =>
      intro c hc
      rw [e] at hc
      obtain ⟨d, hd, hcd⟩ := List.mem_flatMap.mp hc
      have := ih d hd
      have := up d hd c hcd
      omega
  cases Y with
  | nil => rfl
  | cons c Y =>
    have := h N c List.mem_cons_self
    have := hN c List.mem_cons_self
    omega
theorem all_take {A : List Call} {p : Call → Bool} {a : Nat} {c : Call} (h : (A.take a).all p = true) (hc : A[a]? = some c) (hp : p c = true) : (A.take (a + 1)).all p = true := by
  rw [List.take_succ, hc, List.all_append, h]
  show (true && (p c && true)) = true
  rw [hp]
  rfl
theorem called_gen {h : HH} {A : List Call} {S : Sto} {P : D → Sto → Prop} (ca : Calls h A) (k : P (.bl (wellB h A)) S) : Wp (f_are_called_well [.tup (h.fs.map callD), .tup (h.ss.map hsD)] S) P := by
  unfold f_are_called_well d_are_called_well
  refine wp_frz ?_
  have o1 : oListN S [.tup (h.fs.map callD)] = some (h.fs.map callD) := rfl
  simp_arith [o1]
  unfold sWhile
  refine whGo_wp (fun m env T => ∃ (a : Nat) (e5 e6 : Option D) (cs : List Call), m = 61 - a ∧ a ≤ 60 ∧ a ≤ cs.length ∧ (A.take a).all (fun c => fits c.2 (scriptAt h c)) = true ∧ ((A.take a).map fun c => (scriptAt h c).length).sum ≤ 1200 ∧ cs = h.fs ++ (A.take a).flatMap (fun c => begs (scriptAt h c)) ∧ env = [some (.tup (h.fs.map callD)), some (.tup (h.ss.map hsD)), some (.ref S.length), some (.int (((A.take a).map fun c => (scriptAt h c).length).sum : Nat)), some (.int (a : Int)), e5, e6] ∧ T = S ++ [.lst (cs.map callD)]) _ 61 _ _ (by unfold turns; omega)
    ⟨0, none, none, h.fs, rfl, Nat.zero_le _, Nat.zero_le _, rfl, Nat.zero_le _, by rw [List.take_zero]; exact (List.append_nil _).symm, rfl, rfl⟩ fun m env T hI => ?_
  obtain ⟨a, e5, e6, cs, em, ha60, ha, hfit, hsum, ec, e, eT⟩ := hI
  subst e eT
  have hcell := app_at S (.lst (cs.map callD))
  have pre : A = cs ++ (A.drop a).flatMap fun c => begs (scriptAt h c) := by
    have e1 : A.flatMap (fun c => begs (scriptAt h c)) = (A.take a).flatMap (fun c => begs (scriptAt h c)) ++ (A.drop a).flatMap (fun c => begs (scriptAt h c)) := by
      rw [← List.flatMap_append, List.take_append_drop]
    have e2 := ca.eq
    rw [e1, ← List.append_assoc, ← ec] at e2
    exact e2
  have hcl : cs.length ≤ A.length := by
    have := congrArg List.length pre
    rw [List.length_append] at this
    omega
  have lenq : oLen (S ++ [.lst (cs.map callD)]) [.ref S.length] = some (.int (cs.length : Int)) := by
    show (listOf _ _).map _ = _
    rw [list_ref hcell, Option.map_some, List.length_map]
  simp_arith [lenq]
  by_cases hlt : a < cs.length
  · obtain ⟨c, hc⟩ : ∃ c, cs[a]? = some c := ⟨_, List.getElem?_eq_getElem hlt⟩
    have hcA : A[a]? = some c := by rw [pre, List.getElem?_append_left hlt]; exact hc
    have haA : a < A.length := (List.getElem?_eq_some_iff.mp hcA).1
    have cinA := List.mem_of_getElem? hcA
    obtain ⟨sc, hsc⟩ : ∃ sc, h.ss[c.1]? = some sc := ⟨_, List.getElem?_eq_getElem (ca.lt c cinA)⟩
    have esc : scriptAt h c = sc := by unfold scriptAt; rw [hsc]; rfl
    have g1 : oIx (S ++ [.lst (cs.map callD)]) (.ref S.length) (.int (a : Int)) = some (callD c) := (ix_refD hcell).trans (hat callD hc)
    have hsl := ca.sl sc (List.mem_of_getElem? hsc)
    have etake : A.take (a + 1) = A.take a ++ [c] := by rw [List.take_succ, hcA]; rfl
    have esum : ((A.take (a + 1)).map fun c => (scriptAt h c).length).sum = ((A.take a).map fun c => (scriptAt h c).length).sum + sc.length := by
      rw [etake, List.map_append, List.sum_append, List.map_cons, List.map_nil, esc]
      simp
    have hsumA : ((A.take (a + 1)).map fun c => (scriptAt h c).length).sum ≤ (A.map fun c => (scriptAt h c).length).sum := by
      have e1 : (A.map fun c => (scriptAt h c).length).sum = ((A.take (a + 1)).map fun c => (scriptAt h c).length).sum + ((A.drop (a + 1)).map fun c => (scriptAt h c).length).sum := by
        rw [← List.sum_append, ← List.map_append, List.take_append_drop]
      omega
    have hbm : ∀ e ∈ sc, ∀ i m, e = .beg i m → m.length ≤ 10 := fun e he i m q => by
      subst q
      have h1 : (i, m) ∈ begs sc := List.mem_filterMap.mpr ⟨_, he, rfl⟩
      have h2 : (i, m) ∈ A := by
        rw [ca.eq]
        exact List.mem_append_right _ (List.mem_flatMap.mpr ⟨c, cinA, by rw [esc]; exact h1⟩)
      exact ca.ml _ h2
    simp_arith [decide_eq_true (show (a : Int) < (cs.length : Int) by omega), g1, callD, hat hsD hsc, hsD, List.length_map, lenq]
    by_cases n1 : cs.length ≤ 60
    case neg =>
      have n1' : ((cs.length : Nat) : Int) > 60 := by omega
      simp_arith [decide_eq_true n1']
      refine frz_set1 rfl ?_
      have : wellB h A = false := by unfold wellB; rw [decide_eq_false (show ¬ A.length ≤ 60 by omega)]; rfl
      rw [this] at k
      exact k
    by_cases n2 : ((A.take (a + 1)).map fun c => (scriptAt h c).length).sum ≤ 1200
    case neg =>
      have n1' : ¬ ((cs.length : Nat) : Int) > 60 := by omega
      have n2' : ((((A.take a).map fun c => (scriptAt h c).length).sum : Nat) : Int) + (sc.length : Int) > 1200 := by rw [esum] at n2; omega
      simp_arith [decide_eq_false n1', decide_eq_true n2']
      refine frz_set1 rfl ?_
      have : wellB h A = false := by unfold wellB; rw [decide_eq_false (show ¬ (A.map fun c => (scriptAt h c).length).sum ≤ 1200 by omega), Bool.and_false, Bool.false_and]
      rw [this] at k
      exact k
    have n1' : ¬ ((cs.length : Nat) : Int) > 60 := by omega
    have n2' : ¬ ((((A.take a).map fun c => (scriptAt h c).length).sum : Nat) : Int) + (sc.length : Int) > 1200 := by rw [esum] at n2; omega
    simp_arith [lenq, decide_eq_false n1', decide_eq_false n2', g1, callD]
    have hw := scriptfits_wp (S := S ++ [.lst (cs.map callD)]) (s := sc) (ms := c.2) (P := fun d T => d = .bl (fits c.2 sc) ∧ T = S ++ [.lst (cs.map callD)]) hsl (ca.ml c cinA) (ca.nd c cinA) hbm ⟨rfl, rfl⟩
    unfold hsD at hw
    refine hw.mono fun d T q => ?_
    obtain ⟨q1, q2⟩ := q
    subst q1 q2
    cases hf : fits c.2 sc with
    | false =>
      simp_arith
      refine frz_set1 rfl ?_
      have : wellB h A = false := by
        unfold wellB
        rw [show (A.all fun c => fits c.2 (scriptAt h c)) = false from List.all_eq_false.mpr ⟨c, cinA, by rw [esc, hf]; exact Bool.false_ne_true⟩, Bool.and_false]
      rw [this] at k
      exact k
    | true =>
    simp_arith
    refine w_Ext ?_
    simp_arith
    refine ⟨S.length, rfl, ⟨_, hcell⟩, ?_⟩
    simp_arith
    refine compGo_filter (fun d => match d with | .tup (.str w :: _) => decide (w = "begin") | _ => false) (fun d => match d with | .tup (_ :: r) => D.tup r | d => d) (by rw [List.length_map, sizeLine_eq]; omega) (fun d hd => ?_) ?_
    · obtain ⟨e, _, ee⟩ := List.mem_map.mp hd
      subst ee
      refine ⟨_, rfl, ?_, fun _ => ?_⟩
      · cases e <;> simp_arith [Hd.d, eq_self, hn_raise_await, hn_raise_begin, hn_raise_work, hn_raise_say, hn_raise_come, hn_raise_go, hn_raise_leave, hn_await_raise, hn_await_begin, hn_await_work, hn_await_say, hn_await_come, hn_await_go, hn_await_leave, hn_begin_raise, hn_begin_await, hn_begin_work, hn_begin_say, hn_begin_come, hn_begin_go, hn_begin_leave, hn_work_raise, hn_work_await, hn_work_begin, hn_work_say, hn_work_come, hn_work_go, hn_work_leave, hn_say_raise, hn_say_await, hn_say_begin, hn_say_work, hn_say_come, hn_say_go, hn_say_leave, hn_come_raise, hn_come_await, hn_come_begin, hn_come_work, hn_come_say, hn_come_go, hn_come_leave, hn_go_raise, hn_go_await, hn_go_begin, hn_go_work, hn_go_say, hn_go_come, hn_go_leave, hn_leave_raise, hn_leave_await, hn_leave_begin, hn_leave_work, hn_leave_say, hn_leave_come, hn_leave_go]
      · have c1 : ∀ (x : D) (r : List D), r.length ≤ 5 → cutD (x :: r) (some 1) none = r := fun x r hr => by rw [cut_hi _ _ (by decide) (by rw [List.length_cons]; omega)]; rfl
        cases e <;> simp_arith [Hd.d, c1 _ [_, _] (by show 2 ≤ 5; decide), c1 _ [_] (by show 1 ≤ 5; decide)]
    · have bf := beg_filter sc
      refine ⟨cs.map callD, (begs sc).map callD, hcell, ?_, ?_, ?_⟩
      · exact congrArg some bf
      · rw [List.length_map, List.length_map, sizeLine_eq]
        have : (begs sc).length ≤ sc.length := List.length_filterMap_le _ _
        omega
      rw [set_last, ← List.map_append]
      refine ⟨61 - (a + 1), by omega, a + 1, some (.tup (sc.map Hd.d)), e6, cs ++ begs sc, rfl, by omega, by rw [List.length_append]; omega, all_take hfit hcA (by rw [esc, hf]), n2, ?_, ?_, rfl⟩
      · rw [ec, etake, List.flatMap_append, List.flatMap_cons, List.flatMap_nil, List.append_nil, esc, List.append_assoc]
      · rw [esum]
        rfl
  · have hae : a = cs.length := by omega
    have hY : (A.drop a).flatMap (fun c => begs (scriptAt h c)) = A.drop a := by
      have e1 := congrArg (List.drop a) pre
      rw [hae, List.drop_left, ← hae] at e1
      exact e1.symm
    have hX : A.drop a = [] := no_loop hY.symm (fun c hc => ca.up c (List.mem_of_mem_drop hc)) fun c hc => ca.lt c (List.mem_of_mem_drop hc)
    have hAt : A.take a = A := by
      have := List.take_append_drop a A
      rw [hX, List.append_nil] at this
      exact this
    have hAl : A.length ≤ 60 := by
      have := congrArg List.length hAt
      rw [List.length_take] at this
      omega
    rw [hAt] at hfit hsum
    simp_arith [decide_eq_false (show ¬ (a : Int) < (cs.length : Int) by omega)]
    have : wellB h A = true := by
      unfold wellB
      rw [decide_eq_true hAl, decide_eq_true hsum, hfit]
      rfl
    rw [this] at k
    exact frz_set1 rfl k
theorem ishouse_gen {h : HH} {S : Sto} {P : D → Sto → Prop} (v : h.Vd) (f : h.Fn) (k : P (.bl (wellB h (allC h))) S) : Wp (f_is_house [h.d] S) P := by
  refine ishouse_wp ((plt_h (n := 0) f).ok S) (fun e => by rw [house_pre v] at e; cases e) fun b w fs ss e _ => ?_
  have e' : h.d = .tup [.int (h.b : Int), .int (h.w : Int), .tup (h.fs.map callD), .tup (h.ss.map hsD)] := rfl
  rw [e'] at e
  injection e with e
  injection e with _ e
  injection e with _ e
  injection e with e1 e
  injection e with e2 _
  injection e1 with e1
  injection e2 with e2
  rw [← e1, ← e2]
  exact called_gen (calls_vd v) k

end G
end DL
end L2

set_option Elab.async false
set_option linter.all false
set_option maxRecDepth 100000
namespace L2
namespace DL
open PySem PySem.Spec PyProof.Rows
local macro_rules
  | `(tactic| simp_arith [$ls,*]) => `(tactic| simp only [wps, w_C, w_Var, k_Var, w_Bin, k_Bin1, k_Bin2, w_Tst, k_B, w_Chain, k_Ch1, k_Ch2, k_Ch3t, k_Ch3f, k_Ch4, w_And, w_Or, w_Not, k_Andt, k_Andf, k_Ort, k_Orf, k_Not, w_bAnd, w_bOr, w_bNot, w_bYes, k_bAndt, k_bAndf, k_bOrt, k_bOrf, k_bNot, w_dIf, k_dIft, k_dIff, w_aNil, w_aCons, k_Cons1, k_Cons2, w_Tup, w_Lst, w_Cell, k_Tup, k_Lst, k_Cell, w_Call, k_Call, w_CallF, k_CallF, w_CallN, k_CallN, k_New, k_AddN1, w_Un, k_Un, w_Sl, k_Sl1, k_Sl2, k_Sl3, w_No, w_So, k_So, w_iSeq, k_Items, w_Range1, w_Range2, k_Rng1, k_Rng2, w_iEnum, k_Enum, w_Comp, k_Comp, k_AsL, w_TupRg, w_LstRg, k_TupRg, k_LstRg, w_Rev, k_Rev, rev_tup, rev_lst, k_Di1, k_PT1, k_PT2, w_Nil, w_Nop, w_Fl, w_Seq, k_Seqn, k_Seqr, k_Seqb, k_Seqc, w_Expr, k_Drop, w_Ret, k_Ret, w_Set, k_Set, w_Asg, k_Asg1, k_Nx, w_If, k_Ift, k_Iff, w_For, k_For, k_Put1, k_Put2, w_Fun, w_Fun0, k_Funn, k_Funr, w_newK, w_newT, asB_bl, gN, gTupD, gsCons, gsNil, wipeE, itemsOf, seqItems, len_str, add_ii, sub_ii, neg_i, lt_ii, le_ii, gt_ii, ge_ii, eq_ii, ne_ii, eq_ss, ne_ss, isnot_bb, is_bb, is_non, isnot_non, isNonD, ix_tupD, ix_lstD, ix_fzD, at_lit0, at_lit1, at_lit2, at_lit3, len_fz, len_lst, len_tup, List.map_cons, List.map_nil, List.length_cons, List.length_nil, List.getElem?_cons_zero, List.getElem?_cons_succ, List.set_cons_zero, List.set_cons_succ, List.cons_append, List.nil_append, List.replicate_succ, List.replicate_zero, Nat.reduceSub, Nat.reduceAdd, Nat.reduceLeDiff, if_true, if_false, Bool.false_eq_true, Bool.true_eq_false, Bool.not_true, Bool.not_false, Option.bind_some, Option.map_some, Nat.zero_add, ite_true, ite_false, Int.cast_ofNat_Int, Int.natCast_zero, Int.natCast_one, Int.reduceLT, Int.reduceLE, Int.reduceEq, Int.reduceAdd, Int.reduceSub, Int.reduceNeg, decide_true, decide_false, true_and, and_true, le_size, add_ll, add_tt, tuple_lst, tuple_tup, list_tup, list_lst, sl_tup, sl_lst, ii_non_int, ii_non_bool, ii_non_str, ii_non_tuple, ii_non_list, ii_non_dict, ii_bl_int, ii_bl_bool, ii_bl_str, ii_bl_tuple, ii_bl_list, ii_bl_dict, ii_int_int, ii_int_bool, ii_int_str, ii_int_tuple, ii_int_list, ii_int_dict, ii_str_int, ii_str_bool, ii_str_str, ii_str_tuple, ii_str_list, ii_str_dict, ii_tup_int, ii_tup_bool, ii_tup_str, ii_tup_tuple, ii_tup_list, ii_tup_dict, ii_lst_int, ii_lst_bool, ii_lst_str, ii_lst_tuple, ii_lst_list, ii_lst_dict, ii_fz_int, ii_fz_bool, ii_fz_str, ii_fz_tuple, ii_fz_list, ii_fz_dict, $ls,*])
  | `(tactic| simp_arith) => `(tactic| simp only [wps, w_C, w_Var, k_Var, w_Bin, k_Bin1, k_Bin2, w_Tst, k_B, w_Chain, k_Ch1, k_Ch2, k_Ch3t, k_Ch3f, k_Ch4, w_And, w_Or, w_Not, k_Andt, k_Andf, k_Ort, k_Orf, k_Not, w_bAnd, w_bOr, w_bNot, w_bYes, k_bAndt, k_bAndf, k_bOrt, k_bOrf, k_bNot, w_dIf, k_dIft, k_dIff, w_aNil, w_aCons, k_Cons1, k_Cons2, w_Tup, w_Lst, w_Cell, k_Tup, k_Lst, k_Cell, w_Call, k_Call, w_CallF, k_CallF, w_CallN, k_CallN, k_New, k_AddN1, w_Un, k_Un, w_Sl, k_Sl1, k_Sl2, k_Sl3, w_No, w_So, k_So, w_iSeq, k_Items, w_Range1, w_Range2, k_Rng1, k_Rng2, w_iEnum, k_Enum, w_Comp, k_Comp, k_AsL, w_TupRg, w_LstRg, k_TupRg, k_LstRg, w_Rev, k_Rev, rev_tup, rev_lst, k_Di1, k_PT1, k_PT2, w_Nil, w_Nop, w_Fl, w_Seq, k_Seqn, k_Seqr, k_Seqb, k_Seqc, w_Expr, k_Drop, w_Ret, k_Ret, w_Set, k_Set, w_Asg, k_Asg1, k_Nx, w_If, k_Ift, k_Iff, w_For, k_For, k_Put1, k_Put2, w_Fun, w_Fun0, k_Funn, k_Funr, w_newK, w_newT, asB_bl, gN, gTupD, gsCons, gsNil, wipeE, itemsOf, seqItems, len_str, add_ii, sub_ii, neg_i, lt_ii, le_ii, gt_ii, ge_ii, eq_ii, ne_ii, eq_ss, ne_ss, isnot_bb, is_bb, is_non, isnot_non, isNonD, ix_tupD, ix_lstD, ix_fzD, at_lit0, at_lit1, at_lit2, at_lit3, len_fz, len_lst, len_tup, List.map_cons, List.map_nil, List.length_cons, List.length_nil, List.getElem?_cons_zero, List.getElem?_cons_succ, List.set_cons_zero, List.set_cons_succ, List.cons_append, List.nil_append, List.replicate_succ, List.replicate_zero, Nat.reduceSub, Nat.reduceAdd, Nat.reduceLeDiff, if_true, if_false, Bool.false_eq_true, Bool.true_eq_false, Bool.not_true, Bool.not_false, Option.bind_some, Option.map_some, Nat.zero_add, ite_true, ite_false, Int.cast_ofNat_Int, Int.natCast_zero, Int.natCast_one, Int.reduceLT, Int.reduceLE, Int.reduceEq, Int.reduceAdd, Int.reduceSub, Int.reduceNeg, decide_true, decide_false, true_and, and_true, le_size, add_ll, add_tt, tuple_lst, tuple_tup, list_tup, list_lst, sl_tup, sl_lst, ii_non_int, ii_non_bool, ii_non_str, ii_non_tuple, ii_non_list, ii_non_dict, ii_bl_int, ii_bl_bool, ii_bl_str, ii_bl_tuple, ii_bl_list, ii_bl_dict, ii_int_int, ii_int_bool, ii_int_str, ii_int_tuple, ii_int_list, ii_int_dict, ii_str_int, ii_str_bool, ii_str_str, ii_str_tuple, ii_str_list, ii_str_dict, ii_tup_int, ii_tup_bool, ii_tup_str, ii_tup_tuple, ii_tup_list, ii_tup_dict, ii_lst_int, ii_lst_bool, ii_lst_str, ii_lst_tuple, ii_lst_list, ii_lst_dict, ii_fz_int, ii_fz_bool, ii_fz_str, ii_fz_tuple, ii_fz_list, ii_fz_dict])
  | `(tactic| simp_arith [$ls,*] $l:location) => `(tactic| simp only [wps, w_C, w_Var, k_Var, w_Bin, k_Bin1, k_Bin2, w_Tst, k_B, w_Chain, k_Ch1, k_Ch2, k_Ch3t, k_Ch3f, k_Ch4, w_And, w_Or, w_Not, k_Andt, k_Andf, k_Ort, k_Orf, k_Not, w_bAnd, w_bOr, w_bNot, w_bYes, k_bAndt, k_bAndf, k_bOrt, k_bOrf, k_bNot, w_dIf, k_dIft, k_dIff, w_aNil, w_aCons, k_Cons1, k_Cons2, w_Tup, w_Lst, w_Cell, k_Tup, k_Lst, k_Cell, w_Call, k_Call, w_CallF, k_CallF, w_CallN, k_CallN, k_New, k_AddN1, w_Un, k_Un, w_Sl, k_Sl1, k_Sl2, k_Sl3, w_No, w_So, k_So, w_iSeq, k_Items, w_Range1, w_Range2, k_Rng1, k_Rng2, w_iEnum, k_Enum, w_Comp, k_Comp, k_AsL, w_TupRg, w_LstRg, k_TupRg, k_LstRg, w_Rev, k_Rev, rev_tup, rev_lst, k_Di1, k_PT1, k_PT2, w_Nil, w_Nop, w_Fl, w_Seq, k_Seqn, k_Seqr, k_Seqb, k_Seqc, w_Expr, k_Drop, w_Ret, k_Ret, w_Set, k_Set, w_Asg, k_Asg1, k_Nx, w_If, k_Ift, k_Iff, w_For, k_For, k_Put1, k_Put2, w_Fun, w_Fun0, k_Funn, k_Funr, w_newK, w_newT, asB_bl, gN, gTupD, gsCons, gsNil, wipeE, itemsOf, seqItems, len_str, add_ii, sub_ii, neg_i, lt_ii, le_ii, gt_ii, ge_ii, eq_ii, ne_ii, eq_ss, ne_ss, isnot_bb, is_bb, is_non, isnot_non, isNonD, ix_tupD, ix_lstD, ix_fzD, at_lit0, at_lit1, at_lit2, at_lit3, len_fz, len_lst, len_tup, List.map_cons, List.map_nil, List.length_cons, List.length_nil, List.getElem?_cons_zero, List.getElem?_cons_succ, List.set_cons_zero, List.set_cons_succ, List.cons_append, List.nil_append, List.replicate_succ, List.replicate_zero, Nat.reduceSub, Nat.reduceAdd, Nat.reduceLeDiff, if_true, if_false, Bool.false_eq_true, Bool.true_eq_false, Bool.not_true, Bool.not_false, Option.bind_some, Option.map_some, Nat.zero_add, ite_true, ite_false, Int.cast_ofNat_Int, Int.natCast_zero, Int.natCast_one, Int.reduceLT, Int.reduceLE, Int.reduceEq, Int.reduceAdd, Int.reduceSub, Int.reduceNeg, decide_true, decide_false, true_and, and_true, le_size, add_ll, add_tt, tuple_lst, tuple_tup, list_tup, list_lst, sl_tup, sl_lst, ii_non_int, ii_non_bool, ii_non_str, ii_non_tuple, ii_non_list, ii_non_dict, ii_bl_int, ii_bl_bool, ii_bl_str, ii_bl_tuple, ii_bl_list, ii_bl_dict, ii_int_int, ii_int_bool, ii_int_str, ii_int_tuple, ii_int_list, ii_int_dict, ii_str_int, ii_str_bool, ii_str_str, ii_str_tuple, ii_str_list, ii_str_dict, ii_tup_int, ii_tup_bool, ii_tup_str, ii_tup_tuple, ii_tup_list, ii_tup_dict, ii_lst_int, ii_lst_bool, ii_lst_str, ii_lst_tuple, ii_lst_list, ii_lst_dict, ii_fz_int, ii_fz_bool, ii_fz_str, ii_fz_tuple, ii_fz_list, ii_fz_dict, $ls,*] $l:location)
  | `(tactic| simp_arith $l:location) => `(tactic| simp only [wps, w_C, w_Var, k_Var, w_Bin, k_Bin1, k_Bin2, w_Tst, k_B, w_Chain, k_Ch1, k_Ch2, k_Ch3t, k_Ch3f, k_Ch4, w_And, w_Or, w_Not, k_Andt, k_Andf, k_Ort, k_Orf, k_Not, w_bAnd, w_bOr, w_bNot, w_bYes, k_bAndt, k_bAndf, k_bOrt, k_bOrf, k_bNot, w_dIf, k_dIft, k_dIff, w_aNil, w_aCons, k_Cons1, k_Cons2, w_Tup, w_Lst, w_Cell, k_Tup, k_Lst, k_Cell, w_Call, k_Call, w_CallF, k_CallF, w_CallN, k_CallN, k_New, k_AddN1, w_Un, k_Un, w_Sl, k_Sl1, k_Sl2, k_Sl3, w_No, w_So, k_So, w_iSeq, k_Items, w_Range1, w_Range2, k_Rng1, k_Rng2, w_iEnum, k_Enum, w_Comp, k_Comp, k_AsL, w_TupRg, w_LstRg, k_TupRg, k_LstRg, w_Rev, k_Rev, rev_tup, rev_lst, k_Di1, k_PT1, k_PT2, w_Nil, w_Nop, w_Fl, w_Seq, k_Seqn, k_Seqr, k_Seqb, k_Seqc, w_Expr, k_Drop, w_Ret, k_Ret, w_Set, k_Set, w_Asg, k_Asg1, k_Nx, w_If, k_Ift, k_Iff, w_For, k_For, k_Put1, k_Put2, w_Fun, w_Fun0, k_Funn, k_Funr, w_newK, w_newT, asB_bl, gN, gTupD, gsCons, gsNil, wipeE, itemsOf, seqItems, len_str, add_ii, sub_ii, neg_i, lt_ii, le_ii, gt_ii, ge_ii, eq_ii, ne_ii, eq_ss, ne_ss, isnot_bb, is_bb, is_non, isnot_non, isNonD, ix_tupD, ix_lstD, ix_fzD, at_lit0, at_lit1, at_lit2, at_lit3, len_fz, len_lst, len_tup, List.map_cons, List.map_nil, List.length_cons, List.length_nil, List.getElem?_cons_zero, List.getElem?_cons_succ, List.set_cons_zero, List.set_cons_succ, List.cons_append, List.nil_append, List.replicate_succ, List.replicate_zero, Nat.reduceSub, Nat.reduceAdd, Nat.reduceLeDiff, if_true, if_false, Bool.false_eq_true, Bool.true_eq_false, Bool.not_true, Bool.not_false, Option.bind_some, Option.map_some, Nat.zero_add, ite_true, ite_false, Int.cast_ofNat_Int, Int.natCast_zero, Int.natCast_one, Int.reduceLT, Int.reduceLE, Int.reduceEq, Int.reduceAdd, Int.reduceSub, Int.reduceNeg, decide_true, decide_false, true_and, and_true, le_size, add_ll, add_tt, tuple_lst, tuple_tup, list_tup, list_lst, sl_tup, sl_lst, ii_non_int, ii_non_bool, ii_non_str, ii_non_tuple, ii_non_list, ii_non_dict, ii_bl_int, ii_bl_bool, ii_bl_str, ii_bl_tuple, ii_bl_list, ii_bl_dict, ii_int_int, ii_int_bool, ii_int_str, ii_int_tuple, ii_int_list, ii_int_dict, ii_str_int, ii_str_bool, ii_str_str, ii_str_tuple, ii_str_list, ii_str_dict, ii_tup_int, ii_tup_bool, ii_tup_str, ii_tup_tuple, ii_tup_list, ii_tup_dict, ii_lst_int, ii_lst_bool, ii_lst_str, ii_lst_tuple, ii_lst_list, ii_lst_dict, ii_fz_int, ii_fz_bool, ii_fz_str, ii_fz_tuple, ii_fz_list, ii_fz_dict] $l:location)
namespace G
def OKd (d : D) : Prop := ∀ T, okD T d
theorem OKd.tup {ds : List D} (h : ∀ d ∈ ds, OKd d) : OKd (.tup ds) := fun T => ⟨typedL_of' fun d hd => (h d hd T).1, shortL_of' fun d hd => (h d hd T).2⟩
theorem OKd.lst {ds : List D} (h : ∀ d ∈ ds, OKd d) : OKd (.lst ds) := fun T => ⟨typedL_of' fun d hd => (h d hd T).1, shortL_of' fun d hd => (h d hd T).2⟩
theorem OKd.int (i : Int) : OKd (.int i) := fun T => ⟨rfl, rfl⟩
theorem OKd.bl (b : Bool) : OKd (.bl b) := fun T => ⟨rfl, rfl⟩
theorem OKd.non : OKd .non := fun T => ⟨rfl, rfl⟩
theorem OKd.str {w : Str} (h : w.length ≤ 1000) : OKd (.str w) := fun T => ⟨rfl, decide_eq_true h⟩
theorem okd_h {h : HH} (f : h.Fn) : OKd (.tup (h.fs.map callD)) ∧ OKd (.tup (h.ss.map hsD)) ∧ (∀ d ∈ h.fs.map callD, OKd d) ∧ ∀ d ∈ h.ss.map hsD, OKd d := by
  have h1 : ∀ d ∈ h.fs.map callD, OKd d := fun d hd => by
    obtain ⟨c, hc, e⟩ := List.mem_map.mp hd
    subst e
    exact (plt_call (n := 0) (f.fs c hc)).ok
  have h2 : ∀ d ∈ h.ss.map hsD, OKd d := fun d hd => by
    obtain ⟨s, hs, e⟩ := List.mem_map.mp hd
    subst e
    exact (plt_sc (n := 0) (f.ss s hs)).ok
  exact ⟨OKd.tup h1, OKd.tup h2, h1, h2⟩

theorem none_wp {S : Sto} {d : D} {P : D → Sto → Prop} (ok : okD S d) (h : preB d = false) (k : P (.bl false) S) : Wp (f_is_house [d] S) P := by
  refine ishouse_wp ok (fun _ => k) fun b w fs ss _ e => by rw [h] at e; cases e
/-- a thing that is no house, told so -/
def Nope (d : D) : Prop := ∀ (S : Sto) (P : D → Sto → Prop), P (.bl false) S → Wp (f_is_house [d] S) P
theorem nope_pre {d : D} (h : preB d = false) (ok : OKd d) : Nope d := fun S P k => none_wp (ok S) h k
/-- an if that is not taken, an if that raises -/
theorem ex_skip {f g : DS} {env : Ev} {S : Sto} {c : Str} {Q : Sto → Prop} {i : Nat} {a b : Int} (hi : env[i]? = some (some (.int a))) (hab : a ≠ b) (k : Ex (g env S) c Q) : Ex (sSeq (sIf (dTst (dBin oEq (dVar i) (dC (.int b)))) f sNil) g env S) c Q := by
  refine ex_seq2 ?_
  simp_arith [hi, decide_eq_false hab]
  exact k
theorem ex_take {f g : DS} {env : Ev} {S : Sto} {c : Str} {Q : Sto → Prop} {i : Nat} {a : Int} (hi : env[i]? = some (some (.int a))) (k : Ex (f env S) c Q) : Ex (sSeq (sIf (dTst (dBin oEq (dVar i) (dC (.int a)))) f sNil) g env S) c Q := by
  refine ex_seq1 (ex_if ?_)
  simp_arith [hi]
  exact k
section
variable {d : D} (h : Nope d) {S : Sto}
include h
theorem need_ex : Ex (f_need_house [d] S) "NoHouse" (Own S) := by
  unfold f_need_house d_need_house
  refine ex_fun (ex_if ?_)
  simp_arith
  refine h S _ ?_
  simp_arith
  refine (fun h => Ex.mk ⟨S, rfl, h⟩) (Own.refl S)
theorem needE_ex {env : Ev} {i : Nat} (hi : env[i]? = some (some d)) : Ex (sExpr (dCallF f_need_house (aCons (dVar i) aNil)) env S) "NoHouse" (Own S) := by
  refine ex_expr (ex_callF ?_)
  simp_arith [hi]
  exact need_ex h
theorem gone_ex {e : D} : Ex (f_need_gone [d, e] S) "NoHouse" (Own S) := by
  unfold f_need_gone d_need_gone
  exact ex_fun (ex_seq1 (needE_ex h rfl))
theorem stand_ex {e : D} : Ex (f_need_stand [d, e] S) "NoHouse" (Own S) := by
  unfold f_need_stand d_need_stand
  exact ex_fun (ex_seq1 (needE_ex h rfl))
theorem goneE_ex {env : Ev} {i j : Nat} {e : D} (hi : env[i]? = some (some d)) (hj : env[j]? = some (some e)) : Ex (dCallF f_need_gone (aCons (dVar i) (aCons (dVar j) aNil)) env S) "NoHouse" (Own S) := by
  refine ex_callF ?_
  simp_arith [hi, hj]
  exact gone_ex h
theorem standE_ex {env : Ev} {i j : Nat} {e : D} (hi : env[i]? = some (some d)) (hj : env[j]? = some (some e)) : Ex (sExpr (dCallF f_need_stand (aCons (dVar i) (aCons (dVar j) aNil))) env S) "NoHouse" (Own S) := by
  refine ex_expr (ex_callF ?_)
  simp_arith [hi, hj]
  exact stand_ex h
theorem hands_ex : Ex (f_hands [d] S) "NoHouse" (Own S) := by
  unfold f_hands d_hands
  exact ex_fun (ex_seq1 (needE_ex h rfl))
theorem first_ex : Ex (f_first_stand [d] S) "NoHouse" (Own S) := by
  unfold f_first_stand d_first_stand
  exact ex_fun (ex_seq1 (needE_ex h rfl))
theorem isstand_ex {e : D} : Ex (f_is_stand [d, e] S) "NoHouse" (Own S) := by
  unfold f_is_stand d_is_stand
  exact ex_fun (ex_seq1 (needE_ex h rfl))
theorem numbers_ex {e : D} : Ex (f_numbers [d, e] S) "NoHouse" (Own S) := by
  unfold f_numbers d_numbers
  exact ex_fun (ex_seq1 (standE_ex h rfl rfl))
theorem lifted_ex {e f : D} : Ex (f_lifted [d, e, f] S) "NoHouse" (Own S) := by
  unfold f_lifted d_lifted
  exact ex_fun (ex_seq1 (standE_ex h rfl rfl))
theorem maygo_ex {e : D} : Ex (f_may_go [d, e] S) "NoHouse" (Own S) := by
  unfold f_may_go d_may_go
  exact ex_fun (ex_seq1 (standE_ex h rfl rfl))
theorem behind_ex {e f : D} : Ex (f_behind [d, e, f] S) "NoHouse" (Own S) := by
  unfold f_behind d_behind
  exact ex_fun (ex_seq1 (standE_ex h rfl rfl))
theorem played_ex {e : D} : Ex (f_played [d, e] S) "NoHouse" (Own S) := by
  unfold f_played d_played
  exact ex_fun (ex_ret (Ex.bind1 (goneE_ex h rfl rfl)))
theorem full_ex {e : D} : Ex (f_is_full [d, e] S) "NoHouse" (Own S) := by
  unfold f_is_full d_is_full
  exact ex_fun (ex_ret (Ex.bind1 (Ex.bind1 (goneE_ex h rfl rfl))))
theorem goneon_ex {e : D} : Ex (f_gone_on [d, e] S) "NoHouse" (Own S) := by
  unfold f_gone_on d_gone_on
  exact ex_fun (ex_ret (Ex.bind1 (Ex.bind1 (goneE_ex h rfl rfl))))
theorem end_ex : Ex (f_end [d] S) "NoHouse" (Own S) := by
  unfold f_end d_end
  exact ex_fun (ex_seq1 (needE_ex h rfl))
theorem knot_ex {e f : D} : Ex (f_is_knot [d, e, f] S) "NoHouse" (Own S) := by
  unfold f_is_knot d_is_knot
  exact ex_fun (ex_seq1 (needE_ex h rfl))
theorem door_ex {w : Nat} : Ex (f__law_b_door [.int (w : Int), d] S) "NoHouse" (Own S) := by
  unfold f__law_b_door d__law_b_door
  refine ex_fun ?_
  by_cases h0 : w = 0
  · subst h0
    refine ex_take rfl (ex_ret (ex_callF ?_))
    simp_arith
    exact need_ex h
  refine ex_skip (a := (w : Int)) rfl (by omega) ?_
  by_cases h1 : w = 1
  · subst h1
    refine ex_take rfl (ex_ret (ex_callF ?_))
    simp_arith
    exact hands_ex h
  refine ex_skip (a := (w : Int)) rfl (by omega) ?_
  by_cases h2 : w = 2
  · subst h2
    refine ex_take rfl (ex_ret (ex_callF ?_))
    simp_arith
    exact first_ex h
  refine ex_skip (a := (w : Int)) rfl (by omega) ?_
  by_cases h3 : w = 3
  · subst h3
    refine ex_take rfl (ex_ret (ex_callF ?_))
    simp_arith
    exact (isstand_ex h).mono fun T o => ((Own.refl S).app _).trans o
  refine ex_skip (a := (w : Int)) rfl (by omega) ?_
  by_cases h4 : w = 4
  · subst h4
    refine ex_take rfl (ex_ret (ex_callF ?_))
    simp_arith
    exact (numbers_ex h).mono fun T o => ((Own.refl S).app _).trans o
  refine ex_skip (a := (w : Int)) rfl (by omega) ?_
  by_cases h5 : w = 5
  · subst h5
    refine ex_take rfl (ex_ret (ex_callF ?_))
    simp_arith
    exact (lifted_ex h).mono fun T o => ((Own.refl S).app _).trans o
  refine ex_skip (a := (w : Int)) rfl (by omega) ?_
  by_cases h6 : w = 6
  · subst h6
    refine ex_take rfl (ex_ret (ex_callF ?_))
    simp_arith
    refine w_Disp1T ?_
    simp_arith
    refine ⟨_, ⟨_, rfl, rfl⟩, app_at _ _, ?_⟩
    simp_arith [set_last]
    exact (maygo_ex h).mono fun T o => ((Own.refl S).app _).trans o
  refine ex_skip (a := (w : Int)) rfl (by omega) ?_
  refine ex_ret (ex_callF ?_)
  simp_arith
  exact (behind_ex h).mono fun T o => ((Own.refl S).app _).trans o
theorem later_ex {w : Nat} (hw : w < 13) : Ex (f__law_b_later_door [.int (w : Int), d] S) "NoHouse" (Own S) := by
  unfold f__law_b_later_door d__law_b_later_door
  refine ex_fun ?_
  by_cases h0 : w = 8
  · subst h0
    refine ex_take rfl (ex_ret (ex_callF ?_))
    simp_arith
    exact played_ex h
  refine ex_skip (a := (w : Int)) rfl (by omega) ?_
  by_cases h1 : w = 9
  · subst h1
    refine ex_take rfl (ex_ret (ex_callF ?_))
    simp_arith
    exact full_ex h
  refine ex_skip (a := (w : Int)) rfl (by omega) ?_
  by_cases h2 : w = 10
  · subst h2
    refine ex_take rfl (ex_ret (ex_callF ?_))
    simp_arith
    exact goneon_ex h
  refine ex_skip (a := (w : Int)) rfl (by omega) ?_
  by_cases h3 : w = 11
  · subst h3
    refine ex_take rfl (ex_ret (ex_callF ?_))
    simp_arith
    exact end_ex h
  refine ex_skip (a := (w : Int)) rfl (by omega) ?_
  by_cases h4 : w = 12
  · subst h4
    refine ex_take rfl (ex_ret (ex_callF ?_))
    simp_arith
    exact (knot_ex h).mono fun T o => ((Own.refl S).app _).trans o
  refine ex_skip (a := (w : Int)) rfl (by omega) ?_
  refine ex_ret (ex_callF ?_)
  simp_arith
  exact door_ex h
theorem refused_wp {w : Nat} {P : D → Sto → Prop} (hw : w < 13) (k : ∀ S', Own S S' → P (.bl true) S') : Wp (f__law_b_refused [.int (w : Int), d] S) P := by
  unfold f__law_b_refused d__law_b_refused
  simp_arith
  refine w_TryBX (b := false) (c := "NoHouse") (ex_expr (ex_callF ?_)) (by simp) (by simp) rfl
  simp_arith
  refine (later_ex h hw).mono fun T o => ?_
  have e1 : lkB [("NoHouse", true)] "NoHouse" = true := by decide
  have e2 : lkB [("NoHouse", false)] "NoHouse" = false := by decide
  simp_arith [e1, e2]
  exact k T o
end
end G
end DL
end L2

set_option Elab.async false
set_option linter.all false
set_option maxRecDepth 100000
namespace L2
namespace DL
open PySem PySem.Spec PyProof.Rows
local macro_rules
  | `(tactic| simp_arith [$ls,*]) => `(tactic| simp only [wps, w_C, w_Var, k_Var, w_Bin, k_Bin1, k_Bin2, w_Tst, k_B, w_Chain, k_Ch1, k_Ch2, k_Ch3t, k_Ch3f, k_Ch4, w_And, w_Or, w_Not, k_Andt, k_Andf, k_Ort, k_Orf, k_Not, w_bAnd, w_bOr, w_bNot, w_bYes, k_bAndt, k_bAndf, k_bOrt, k_bOrf, k_bNot, w_dIf, k_dIft, k_dIff, w_aNil, w_aCons, k_Cons1, k_Cons2, w_Tup, w_Lst, w_Cell, k_Tup, k_Lst, k_Cell, w_Call, k_Call, w_CallF, k_CallF, w_CallN, k_CallN, k_New, k_AddN1, w_Un, k_Un, w_Sl, k_Sl1, k_Sl2, k_Sl3, w_No, w_So, k_So, w_iSeq, k_Items, w_Range1, w_Range2, k_Rng1, k_Rng2, w_iEnum, k_Enum, w_Comp, k_Comp, k_AsL, w_TupRg, w_LstRg, k_TupRg, k_LstRg, w_Rev, k_Rev, rev_tup, rev_lst, k_Di1, k_PT1, k_PT2, w_Nil, w_Nop, w_Fl, w_Seq, k_Seqn, k_Seqr, k_Seqb, k_Seqc, w_Expr, k_Drop, w_Ret, k_Ret, w_Set, k_Set, w_Asg, k_Asg1, k_Nx, w_If, k_Ift, k_Iff, w_For, k_For, k_Put1, k_Put2, w_Fun, w_Fun0, k_Funn, k_Funr, w_newK, w_newT, asB_bl, gN, gTupD, gsCons, gsNil, wipeE, itemsOf, seqItems, len_str, add_ii, sub_ii, neg_i, lt_ii, le_ii, gt_ii, ge_ii, eq_ii, ne_ii, eq_ss, ne_ss, isnot_bb, is_bb, is_non, isnot_non, isNonD, ix_tupD, ix_lstD, ix_fzD, at_lit0, at_lit1, at_lit2, at_lit3, len_fz, len_lst, len_tup, List.map_cons, List.map_nil, List.length_cons, List.length_nil, List.getElem?_cons_zero, List.getElem?_cons_succ, List.set_cons_zero, List.set_cons_succ, List.cons_append, List.nil_append, List.replicate_succ, List.replicate_zero, Nat.reduceSub, Nat.reduceAdd, Nat.reduceLeDiff, if_true, if_false, Bool.false_eq_true, Bool.true_eq_false, Bool.not_true, Bool.not_false, Option.bind_some, Option.map_some, Nat.zero_add, ite_true, ite_false, Int.cast_ofNat_Int, Int.natCast_zero, Int.natCast_one, Int.reduceLT, Int.reduceLE, Int.reduceEq, Int.reduceAdd, Int.reduceSub, Int.reduceNeg, decide_true, decide_false, true_and, and_true, le_size, add_ll, add_tt, tuple_lst, tuple_tup, list_tup, list_lst, sl_tup, sl_lst, ii_non_int, ii_non_bool, ii_non_str, ii_non_tuple, ii_non_list, ii_non_dict, ii_bl_int, ii_bl_bool, ii_bl_str, ii_bl_tuple, ii_bl_list, ii_bl_dict, ii_int_int, ii_int_bool, ii_int_str, ii_int_tuple, ii_int_list, ii_int_dict, ii_str_int, ii_str_bool, ii_str_str, ii_str_tuple, ii_str_list, ii_str_dict, ii_tup_int, ii_tup_bool, ii_tup_str, ii_tup_tuple, ii_tup_list, ii_tup_dict, ii_lst_int, ii_lst_bool, ii_lst_str, ii_lst_tuple, ii_lst_list, ii_lst_dict, ii_fz_int, ii_fz_bool, ii_fz_str, ii_fz_tuple, ii_fz_list, ii_fz_dict, $ls,*])
  | `(tactic| simp_arith) => `(tactic| simp only [wps, w_C, w_Var, k_Var, w_Bin, k_Bin1, k_Bin2, w_Tst, k_B, w_Chain, k_Ch1, k_Ch2, k_Ch3t, k_Ch3f, k_Ch4, w_And, w_Or, w_Not, k_Andt, k_Andf, k_Ort, k_Orf, k_Not, w_bAnd, w_bOr, w_bNot, w_bYes, k_bAndt, k_bAndf, k_bOrt, k_bOrf, k_bNot, w_dIf, k_dIft, k_dIff, w_aNil, w_aCons, k_Cons1, k_Cons2, w_Tup, w_Lst, w_Cell, k_Tup, k_Lst, k_Cell, w_Call, k_Call, w_CallF, k_CallF, w_CallN, k_CallN, k_New, k_AddN1, w_Un, k_Un, w_Sl, k_Sl1, k_Sl2, k_Sl3, w_No, w_So, k_So, w_iSeq, k_Items, w_Range1, w_Range2, k_Rng1, k_Rng2, w_iEnum, k_Enum, w_Comp, k_Comp, k_AsL, w_TupRg, w_LstRg, k_TupRg, k_LstRg, w_Rev, k_Rev, rev_tup, rev_lst, k_Di1, k_PT1, k_PT2, w_Nil, w_Nop, w_Fl, w_Seq, k_Seqn, k_Seqr, k_Seqb, k_Seqc, w_Expr, k_Drop, w_Ret, k_Ret, w_Set, k_Set, w_Asg, k_Asg1, k_Nx, w_If, k_Ift, k_Iff, w_For, k_For, k_Put1, k_Put2, w_Fun, w_Fun0, k_Funn, k_Funr, w_newK, w_newT, asB_bl, gN, gTupD, gsCons, gsNil, wipeE, itemsOf, seqItems, len_str, add_ii, sub_ii, neg_i, lt_ii, le_ii, gt_ii, ge_ii, eq_ii, ne_ii, eq_ss, ne_ss, isnot_bb, is_bb, is_non, isnot_non, isNonD, ix_tupD, ix_lstD, ix_fzD, at_lit0, at_lit1, at_lit2, at_lit3, len_fz, len_lst, len_tup, List.map_cons, List.map_nil, List.length_cons, List.length_nil, List.getElem?_cons_zero, List.getElem?_cons_succ, List.set_cons_zero, List.set_cons_succ, List.cons_append, List.nil_append, List.replicate_succ, List.replicate_zero, Nat.reduceSub, Nat.reduceAdd, Nat.reduceLeDiff, if_true, if_false, Bool.false_eq_true, Bool.true_eq_false, Bool.not_true, Bool.not_false, Option.bind_some, Option.map_some, Nat.zero_add, ite_true, ite_false, Int.cast_ofNat_Int, Int.natCast_zero, Int.natCast_one, Int.reduceLT, Int.reduceLE, Int.reduceEq, Int.reduceAdd, Int.reduceSub, Int.reduceNeg, decide_true, decide_false, true_and, and_true, le_size, add_ll, add_tt, tuple_lst, tuple_tup, list_tup, list_lst, sl_tup, sl_lst, ii_non_int, ii_non_bool, ii_non_str, ii_non_tuple, ii_non_list, ii_non_dict, ii_bl_int, ii_bl_bool, ii_bl_str, ii_bl_tuple, ii_bl_list, ii_bl_dict, ii_int_int, ii_int_bool, ii_int_str, ii_int_tuple, ii_int_list, ii_int_dict, ii_str_int, ii_str_bool, ii_str_str, ii_str_tuple, ii_str_list, ii_str_dict, ii_tup_int, ii_tup_bool, ii_tup_str, ii_tup_tuple, ii_tup_list, ii_tup_dict, ii_lst_int, ii_lst_bool, ii_lst_str, ii_lst_tuple, ii_lst_list, ii_lst_dict, ii_fz_int, ii_fz_bool, ii_fz_str, ii_fz_tuple, ii_fz_list, ii_fz_dict])
  | `(tactic| simp_arith [$ls,*] $l:location) => `(tactic| simp only [wps, w_C, w_Var, k_Var, w_Bin, k_Bin1, k_Bin2, w_Tst, k_B, w_Chain, k_Ch1, k_Ch2, k_Ch3t, k_Ch3f, k_Ch4, w_And, w_Or, w_Not, k_Andt, k_Andf, k_Ort, k_Orf, k_Not, w_bAnd, w_bOr, w_bNot, w_bYes, k_bAndt, k_bAndf, k_bOrt, k_bOrf, k_bNot, w_dIf, k_dIft, k_dIff, w_aNil, w_aCons, k_Cons1, k_Cons2, w_Tup, w_Lst, w_Cell, k_Tup, k_Lst, k_Cell, w_Call, k_Call, w_CallF, k_CallF, w_CallN, k_CallN, k_New, k_AddN1, w_Un, k_Un, w_Sl, k_Sl1, k_Sl2, k_Sl3, w_No, w_So, k_So, w_iSeq, k_Items, w_Range1, w_Range2, k_Rng1, k_Rng2, w_iEnum, k_Enum, w_Comp, k_Comp, k_AsL, w_TupRg, w_LstRg, k_TupRg, k_LstRg, w_Rev, k_Rev, rev_tup, rev_lst, k_Di1, k_PT1, k_PT2, w_Nil, w_Nop, w_Fl, w_Seq, k_Seqn, k_Seqr, k_Seqb, k_Seqc, w_Expr, k_Drop, w_Ret, k_Ret, w_Set, k_Set, w_Asg, k_Asg1, k_Nx, w_If, k_Ift, k_Iff, w_For, k_For, k_Put1, k_Put2, w_Fun, w_Fun0, k_Funn, k_Funr, w_newK, w_newT, asB_bl, gN, gTupD, gsCons, gsNil, wipeE, itemsOf, seqItems, len_str, add_ii, sub_ii, neg_i, lt_ii, le_ii, gt_ii, ge_ii, eq_ii, ne_ii, eq_ss, ne_ss, isnot_bb, is_bb, is_non, isnot_non, isNonD, ix_tupD, ix_lstD, ix_fzD, at_lit0, at_lit1, at_lit2, at_lit3, len_fz, len_lst, len_tup, List.map_cons, List.map_nil, List.length_cons, List.length_nil, List.getElem?_cons_zero, List.getElem?_cons_succ, List.set_cons_zero, List.set_cons_succ, List.cons_append, List.nil_append, List.replicate_succ, List.replicate_zero, Nat.reduceSub, Nat.reduceAdd, Nat.reduceLeDiff, if_true, if_false, Bool.false_eq_true, Bool.true_eq_false, Bool.not_true, Bool.not_false, Option.bind_some, Option.map_some, Nat.zero_add, ite_true, ite_false, Int.cast_ofNat_Int, Int.natCast_zero, Int.natCast_one, Int.reduceLT, Int.reduceLE, Int.reduceEq, Int.reduceAdd, Int.reduceSub, Int.reduceNeg, decide_true, decide_false, true_and, and_true, le_size, add_ll, add_tt, tuple_lst, tuple_tup, list_tup, list_lst, sl_tup, sl_lst, ii_non_int, ii_non_bool, ii_non_str, ii_non_tuple, ii_non_list, ii_non_dict, ii_bl_int, ii_bl_bool, ii_bl_str, ii_bl_tuple, ii_bl_list, ii_bl_dict, ii_int_int, ii_int_bool, ii_int_str, ii_int_tuple, ii_int_list, ii_int_dict, ii_str_int, ii_str_bool, ii_str_str, ii_str_tuple, ii_str_list, ii_str_dict, ii_tup_int, ii_tup_bool, ii_tup_str, ii_tup_tuple, ii_tup_list, ii_tup_dict, ii_lst_int, ii_lst_bool, ii_lst_str, ii_lst_tuple, ii_lst_list, ii_lst_dict, ii_fz_int, ii_fz_bool, ii_fz_str, ii_fz_tuple, ii_fz_list, ii_fz_dict, $ls,*] $l:location)
  | `(tactic| simp_arith $l:location) => `(tactic| simp only [wps, w_C, w_Var, k_Var, w_Bin, k_Bin1, k_Bin2, w_Tst, k_B, w_Chain, k_Ch1, k_Ch2, k_Ch3t, k_Ch3f, k_Ch4, w_And, w_Or, w_Not, k_Andt, k_Andf, k_Ort, k_Orf, k_Not, w_bAnd, w_bOr, w_bNot, w_bYes, k_bAndt, k_bAndf, k_bOrt, k_bOrf, k_bNot, w_dIf, k_dIft, k_dIff, w_aNil, w_aCons, k_Cons1, k_Cons2, w_Tup, w_Lst, w_Cell, k_Tup, k_Lst, k_Cell, w_Call, k_Call, w_CallF, k_CallF, w_CallN, k_CallN, k_New, k_AddN1, w_Un, k_Un, w_Sl, k_Sl1, k_Sl2, k_Sl3, w_No, w_So, k_So, w_iSeq, k_Items, w_Range1, w_Range2, k_Rng1, k_Rng2, w_iEnum, k_Enum, w_Comp, k_Comp, k_AsL, w_TupRg, w_LstRg, k_TupRg, k_LstRg, w_Rev, k_Rev, rev_tup, rev_lst, k_Di1, k_PT1, k_PT2, w_Nil, w_Nop, w_Fl, w_Seq, k_Seqn, k_Seqr, k_Seqb, k_Seqc, w_Expr, k_Drop, w_Ret, k_Ret, w_Set, k_Set, w_Asg, k_Asg1, k_Nx, w_If, k_Ift, k_Iff, w_For, k_For, k_Put1, k_Put2, w_Fun, w_Fun0, k_Funn, k_Funr, w_newK, w_newT, asB_bl, gN, gTupD, gsCons, gsNil, wipeE, itemsOf, seqItems, len_str, add_ii, sub_ii, neg_i, lt_ii, le_ii, gt_ii, ge_ii, eq_ii, ne_ii, eq_ss, ne_ss, isnot_bb, is_bb, is_non, isnot_non, isNonD, ix_tupD, ix_lstD, ix_fzD, at_lit0, at_lit1, at_lit2, at_lit3, len_fz, len_lst, len_tup, List.map_cons, List.map_nil, List.length_cons, List.length_nil, List.getElem?_cons_zero, List.getElem?_cons_succ, List.set_cons_zero, List.set_cons_succ, List.cons_append, List.nil_append, List.replicate_succ, List.replicate_zero, Nat.reduceSub, Nat.reduceAdd, Nat.reduceLeDiff, if_true, if_false, Bool.false_eq_true, Bool.true_eq_false, Bool.not_true, Bool.not_false, Option.bind_some, Option.map_some, Nat.zero_add, ite_true, ite_false, Int.cast_ofNat_Int, Int.natCast_zero, Int.natCast_one, Int.reduceLT, Int.reduceLE, Int.reduceEq, Int.reduceAdd, Int.reduceSub, Int.reduceNeg, decide_true, decide_false, true_and, and_true, le_size, add_ll, add_tt, tuple_lst, tuple_tup, list_tup, list_lst, sl_tup, sl_lst, ii_non_int, ii_non_bool, ii_non_str, ii_non_tuple, ii_non_list, ii_non_dict, ii_bl_int, ii_bl_bool, ii_bl_str, ii_bl_tuple, ii_bl_list, ii_bl_dict, ii_int_int, ii_int_bool, ii_int_str, ii_int_tuple, ii_int_list, ii_int_dict, ii_str_int, ii_str_bool, ii_str_str, ii_str_tuple, ii_str_list, ii_str_dict, ii_tup_int, ii_tup_bool, ii_tup_str, ii_tup_tuple, ii_tup_list, ii_tup_dict, ii_lst_int, ii_lst_bool, ii_lst_str, ii_lst_tuple, ii_lst_list, ii_lst_dict, ii_fz_int, ii_fz_bool, ii_fz_str, ii_fz_tuple, ii_fz_list, ii_fz_dict] $l:location)
namespace G
theorem need_wp {h : HH} {A : List Call} {S : Sto} {P : D → Sto → Prop} (v : h.Vd) (f : h.Fn) (ca : Called h A) (k : P .non S) : Wp (f_need_house [h.d] S) P := by
  unfold f_need_house d_need_house
  simp_arith
  refine house_wp v f ca ?_
  simp_arith
  exact k
def CB : D := .tup [.int 0, .tup []]
def GO : D := .tup [.tup [.str "go", .int 0]]
def badL (b w : Int) (F Z : D) : List D := [.non, .tup [], .lst [.int b, .int w, F, Z], .tup [.int 100, .int w, F, Z], .tup [.int b, .int w, .tup [], Z], .tup [.int b, .int w, F, .tup []], .tup [.int b, .int 1, .tup [CB], .tup [GO]], .tup [.int b, .int w, F]]
theorem pre_len {b w : D} {fs ss : List D} (h : ¬ ((1 ≤ fs.length ∧ fs.length ≤ 40) ∧ 1 ≤ ss.length ∧ ss.length ≤ 20)) : preB (.tup [b, w, .tup fs, .tup ss]) = false := by
  cases b <;> first | rfl | skip
  cases w <;> first | rfl | skip
  cases hp : preB (.tup [.int _, .int _, .tup fs, .tup ss]) with
  | false => rfl
  | true =>
    exfalso
    unfold preB at hp
    simp only [Bool.and_eq_true, decide_eq_true_eq] at hp
    omega
theorem nopes {h : HH} (v : h.Vd) (f : h.Fn) : ∀ d ∈ badL (h.b : Int) (h.w : Int) (.tup (h.fs.map callD)) (.tup (h.ss.map hsD)), Nope d := by
  obtain ⟨okF, okS', _, _⟩ := okd_h f
  have cb : OKd CB := fun T => ⟨rfl, rfl⟩
  have gv : HH.Vd ⟨h.b, 1, [(0, [])], [[.go 0]]⟩ := ⟨v.b, by show 1 ≤ 6; decide, by show 1 ≤ 1; decide, by show 1 ≤ 40; decide, by show 1 ≤ 1; decide, by show 1 ≤ 20; decide, fun s hs => by rw [List.mem_singleton.mp hs]; show 1 ≤ 80; decide, fun i s hs e he => by
      have := List.mem_of_getElem? hs
      rw [List.mem_singleton.mp this] at he
      rw [List.mem_singleton.mp he]
      show 0 < 1
      decide, fun c hc => by rw [List.mem_singleton.mp hc]; exact ⟨by show 0 < 1; decide, rfl⟩⟩
  have gf : HH.Fn ⟨h.b, 1, [(0, [])], [[.go 0]]⟩ := ⟨fun c hc => by rw [List.mem_singleton.mp hc]; exact fun p hp => absurd hp List.not_mem_nil, fun s hs e he => by rw [List.mem_singleton.mp hs] at he; rw [List.mem_singleton.mp he]; exact trivial⟩
  have gw : wellB ⟨h.b, 1, [(0, [])], [[.go 0]]⟩ (allC ⟨h.b, 1, [(0, [])], [[.go 0]]⟩) = false := rfl
  refine allc (nope_pre rfl OKd.non) (allc (nope_pre rfl (OKd.tup alln)) (allc (nope_pre rfl (OKd.lst (allc (OKd.int _) (allc (OKd.int _) (allc okF (allc okS' alln)))))) (allc (nope_pre ?_ (OKd.tup (allc (OKd.int _) (allc (OKd.int _) (allc okF (allc okS' alln)))))) (allc (nope_pre ?_ (OKd.tup (allc (OKd.int _) (allc (OKd.int _) (allc (OKd.tup alln) (allc okS' alln)))))) (allc (nope_pre ?_ (OKd.tup (allc (OKd.int _) (allc (OKd.int _) (allc okF (allc (OKd.tup alln) alln)))))) (allc ?_ (allc (nope_pre rfl (OKd.tup (allc (OKd.int _) (allc (OKd.int _) (allc okF alln))))) alln)))))))
  · unfold preB
    dsimp only
    rw [show decide ((100 : Int) ≤ 99) = false from rfl]
    simp only [Bool.and_false, Bool.false_and]
  · exact pre_len fun q => by have := q.1.1; simp at this
  · exact pre_len fun q => by have := q.2.1; simp at this
  · intro S P k
    refine ishouse_gen (h := ⟨h.b, 1, [(0, [])], [[.go 0]]⟩) gv gf ?_
    rw [gw]
    exact k
theorem law_true (ns : List Int) (hn : ns.length ≤ 63) : ∃ S, f_law [.fz (ns.map D.int)] [] = .ok (.bl true) S := by
  have w : Wp (f_law [.fz (ns.map D.int)] []) fun d _ => d = .bl true := by
    unfold f_law d_law
    simp_arith [rng1_int (show (0 : Int) ≤ 3 by decide) (by decide)]
    refine (fun after => forGo_all (fun env S => ∃ e2 e3 e4 e5 e6 e7 e8 e9 e10, env = [some (.fz (ns.map D.int)), some (.ref 0), e2, e3, e4, e5, e6, e7, e8, e9, e10] ∧ DK ns 0 S) ⟨_, _, _, _, _, _, _, _, _, rfl, 0, 0, Int.le_refl _, Int.le_refl _, rfl⟩ (fun d hd env S hI => ?_) after) fun env S hI => ?_
    · obtain ⟨e2, e3, e4, e5, e6, e7, e8, e9, e10, e, dk⟩ := hI
      subst e
      obtain ⟨i, _, ei⟩ := List.mem_map.mp hd
      subst ei
      refine ⟨_, rfl, ?_⟩
      refine brk_deck rfl rfl rfl dk (after _ _ ⟨_, _, _, _, _, _, _, _, _, rfl, dk⟩) ?_
      simp_arith
      refine house_draw (scripts := 3) (firsts := 4) (most := 6) dk (by decide) (by decide) (by decide) (by decide) (by decide) fun h S1 dh dr => ?_
      obtain ⟨A, ca⟩ := dh.ca
      simp_arith
      refine need_wp dh.vd dh.fn ca ?_
      have hd : h.d = .tup [.int (h.b : Int), .int (h.w : Int), .tup (h.fs.map callD), .tup (h.ss.map hsD)] := rfl
      simp_arith [hd]
      have np := nopes dh.vd dh.fn
      refine forGo_all (fun env T => ∃ e9 e10, env = [some (.fz (ns.map D.int)), some (.ref 0), some (.int (0 + (i : Int))), some (.tup [.int (h.b : Int), .int (h.w : Int), .tup (h.fs.map callD), .tup (h.ss.map hsD)]), some (.int (h.b : Int)), some (.int (h.w : Int)), some (.tup (h.fs.map callD)), some (.tup (h.ss.map hsD)), some (.lst (badL (h.b : Int) (h.w : Int) (.tup (h.fs.map callD)) (.tup (h.ss.map hsD)))), e9, e10] ∧ DK ns 0 T) ⟨_, _, rfl, dr.dk⟩ (fun d hd env T hI => ?_) fun env T hI => ?_
      · obtain ⟨e9, e10, e, dkT⟩ := hI
        subst e
        have hN := np d hd
        refine ⟨_, rfl, ?_⟩
        simp_arith [rng1_int (show (0 : Int) ≤ 13 by decide) (by decide)]
        refine forGo_all (fun env T => ∃ e10, env = [some (.fz (ns.map D.int)), some (.ref 0), some (.int (0 + (i : Int))), some (.tup [.int (h.b : Int), .int (h.w : Int), .tup (h.fs.map callD), .tup (h.ss.map hsD)]), some (.int (h.b : Int)), some (.int (h.w : Int)), some (.tup (h.fs.map callD)), some (.tup (h.ss.map hsD)), some (.lst (badL (h.b : Int) (h.w : Int) (.tup (h.fs.map callD)) (.tup (h.ss.map hsD)))), some d, e10] ∧ DK ns 0 T) ⟨_, rfl, dkT⟩ (fun d' hd' env T hI => ?_) fun env T hI => ?_
        · obtain ⟨e10, e, dkT⟩ := hI
          subst e
          obtain ⟨j, hj, ej⟩ := List.mem_map.mp hd'
          subst ej
          have hj' : j < 13 := List.mem_range.mp hj
          refine ⟨_, rfl, ?_⟩
          simp_arith [Int.zero_add]
          refine refused_wp hN hj' fun T' o => ?_
          simp_arith
          obtain ⟨l, eT⟩ := o
          subst eT
          refine ⟨_, rfl, ?_⟩
          obtain ⟨p, q, h1, h2, h3⟩ := dkT
          exact ⟨p, q, h1, h2, by rw [List.getElem?_append_left (List.getElem?_eq_some_iff.mp h3).1]; exact h3⟩
        · obtain ⟨e10, e, dkT⟩ := hI
          subst e
          exact ⟨_, _, rfl, dkT⟩
      · obtain ⟨e9, e10, e, dkT⟩ := hI
        subst e
        exact ⟨_, _, _, _, _, _, _, _, _, rfl, dkT⟩
    · obtain ⟨e2, e3, e4, e5, e6, e7, e8, e9, e10, e, dk⟩ := hI
      subst e
      simp_arith
  obtain ⟨d, S, e, ed⟩ := w.get
  subst ed
  exact ⟨S, e⟩
end G
end DL
end L2

set_option Elab.async false
set_option linter.all false
set_option maxRecDepth 100000
namespace L2
namespace DL
namespace G
open PySem PySem.Spec PyProof.Rows
set_option maxHeartbeats 0 in
theorem all_mk {l : PySem.W.OpenLaw} {w : World} {K : PySem.W.Frag} {h : Heap} {mg : Str → Option Value} {fa f0 f1 f2 f3 f4 f5 f6 f7 f8 f9 f10 f11 f12 f13 f14 f15 f16 f17 f18 f19 f20 f21 f22 f23 f24 f25 f26 f27 f28 f29 f30 f31 f32 f33 f34 f35 f36 f37 f38 f39 f40 : Addr} (X : K.In h) (G : h.Ns mainGlobals mg) (hfa : mg "law" = some (.ref fa))
    {od0 an0 : Option Addr} {sl0 : Array (Option Value)} {oc0 kV0 dc0 pm0 cd0 ct0 : Value}
    (a0 : PySem.W.nsIn K mainGlobals "is_whole" = some (some (.ref f0))) (l0 : K.lookup f0 = some ⟨oc0, od0, .func (PySem.W.fnOf "is_whole" "is_whole" (defArgs st_is_whole) (defBody st_is_whole) (defScope st_is_whole) .none kV0 dc0 pm0 an0 cd0 ct0), sl0⟩) (c0 : PySem.W.codeIn K cd0 "is_whole" = true) (k0 : PySem.W.keepIn K (.ref f0) = true)
    {od1 an1 : Option Addr} {sl1 : Array (Option Value)} {oc1 kV1 dc1 pm1 cd1 ct1 : Value}
    (a1 : PySem.W.nsIn K mainGlobals "is_from_to" = some (some (.ref f1))) (l1 : K.lookup f1 = some ⟨oc1, od1, .func (PySem.W.fnOf "is_from_to" "is_from_to" (defArgs st_is_from_to) (defBody st_is_from_to) (defScope st_is_from_to) .none kV1 dc1 pm1 an1 cd1 ct1), sl1⟩) (c1 : PySem.W.codeIn K cd1 "is_from_to" = true) (k1 : PySem.W.keepIn K (.ref f1) = true)
    {od2 an2 : Option Addr} {sl2 : Array (Option Value)} {oc2 kV2 dc2 pm2 cd2 ct2 : Value}
    (a2 : PySem.W.nsIn K mainGlobals "is_word" = some (some (.ref f2))) (l2 : K.lookup f2 = some ⟨oc2, od2, .func (PySem.W.fnOf "is_word" "is_word" (defArgs st_is_word) (defBody st_is_word) (defScope st_is_word) .none kV2 dc2 pm2 an2 cd2 ct2), sl2⟩) (c2 : PySem.W.codeIn K cd2 "is_word" = true) (k2 : PySem.W.keepIn K (.ref f2) = true)
    {od3 an3 : Option Addr} {sl3 : Array (Option Value)} {oc3 kV3 dc3 pm3 cd3 ct3 : Value}
    (a3 : PySem.W.nsIn K mainGlobals "is_members" = some (some (.ref f3))) (l3 : K.lookup f3 = some ⟨oc3, od3, .func (PySem.W.fnOf "is_members" "is_members" (defArgs st_is_members) (defBody st_is_members) (defScope st_is_members) .none kV3 dc3 pm3 an3 cd3 ct3), sl3⟩) (c3 : PySem.W.codeIn K cd3 "is_members" = true) (k3 : PySem.W.keepIn K (.ref f3) = true)
    {od4 an4 : Option Addr} {sl4 : Array (Option Value)} {oc4 kV4 dc4 pm4 cd4 ct4 : Value}
    (a4 : PySem.W.nsIn K mainGlobals "is_deed" = some (some (.ref f4))) (l4 : K.lookup f4 = some ⟨oc4, od4, .func (PySem.W.fnOf "is_deed" "is_deed" (defArgs st_is_deed) (defBody st_is_deed) (defScope st_is_deed) .none kV4 dc4 pm4 an4 cd4 ct4), sl4⟩) (c4 : PySem.W.codeIn K cd4 "is_deed" = true) (k4 : PySem.W.keepIn K (.ref f4) = true)
    {od5 an5 : Option Addr} {sl5 : Array (Option Value)} {oc5 kV5 dc5 pm5 cd5 ct5 : Value}
    (a5 : PySem.W.nsIn K mainGlobals "is_calling" = some (some (.ref f5))) (l5 : K.lookup f5 = some ⟨oc5, od5, .func (PySem.W.fnOf "is_calling" "is_calling" (defArgs st_is_calling) (defBody st_is_calling) (defScope st_is_calling) .none kV5 dc5 pm5 an5 cd5 ct5), sl5⟩) (c5 : PySem.W.codeIn K cd5 "is_calling" = true) (k5 : PySem.W.keepIn K (.ref f5) = true)
    {od6 an6 : Option Addr} {sl6 : Array (Option Value)} {oc6 kV6 dc6 pm6 cd6 ct6 : Value}
    (a6 : PySem.W.nsIn K mainGlobals "is_script" = some (some (.ref f6))) (l6 : K.lookup f6 = some ⟨oc6, od6, .func (PySem.W.fnOf "is_script" "is_script" (defArgs st_is_script) (defBody st_is_script) (defScope st_is_script) .none kV6 dc6 pm6 an6 cd6 ct6), sl6⟩) (c6 : PySem.W.codeIn K cd6 "is_script" = true) (k6 : PySem.W.keepIn K (.ref f6) = true)
    {od7 an7 : Option Addr} {sl7 : Array (Option Value)} {oc7 kV7 dc7 pm7 cd7 ct7 : Value}
    (a7 : PySem.W.nsIn K mainGlobals "has_mode" = some (some (.ref f7))) (l7 : K.lookup f7 = some ⟨oc7, od7, .func (PySem.W.fnOf "has_mode" "has_mode" (defArgs st_has_mode) (defBody st_has_mode) (defScope st_has_mode) .none kV7 dc7 pm7 an7 cd7 ct7), sl7⟩) (c7 : PySem.W.codeIn K cd7 "has_mode" = true) (k7 : PySem.W.keepIn K (.ref f7) = true)
    {od8 an8 : Option Addr} {sl8 : Array (Option Value)} {oc8 kV8 dc8 pm8 cd8 ct8 : Value}
    (a8 : PySem.W.nsIn K mainGlobals "may_do_with" = some (some (.ref f8))) (l8 : K.lookup f8 = some ⟨oc8, od8, .func (PySem.W.fnOf "may_do_with" "may_do_with" (defArgs st_may_do_with) (defBody st_may_do_with) (defScope st_may_do_with) .none kV8 dc8 pm8 an8 cd8 ct8), sl8⟩) (c8 : PySem.W.codeIn K cd8 "may_do_with" = true) (k8 : PySem.W.keepIn K (.ref f8) = true)
    {od9 an9 : Option Addr} {sl9 : Array (Option Value)} {oc9 kV9 dc9 pm9 cd9 ct9 : Value}
    (a9 : PySem.W.nsIn K mainGlobals "script_fits" = some (some (.ref f9))) (l9 : K.lookup f9 = some ⟨oc9, od9, .func (PySem.W.fnOf "script_fits" "script_fits" (defArgs st_script_fits) (defBody st_script_fits) (defScope st_script_fits) .none kV9 dc9 pm9 an9 cd9 ct9), sl9⟩) (c9 : PySem.W.codeIn K cd9 "script_fits" = true) (k9 : PySem.W.keepIn K (.ref f9) = true)
    {od10 an10 : Option Addr} {sl10 : Array (Option Value)} {oc10 kV10 dc10 pm10 cd10 ct10 : Value}
    (a10 : PySem.W.nsIn K mainGlobals "are_called_well" = some (some (.ref f10))) (l10 : K.lookup f10 = some ⟨oc10, od10, .func (PySem.W.fnOf "are_called_well" "are_called_well" (defArgs st_are_called_well) (defBody st_are_called_well) (defScope st_are_called_well) .none kV10 dc10 pm10 an10 cd10 ct10), sl10⟩) (c10 : PySem.W.codeIn K cd10 "are_called_well" = true) (k10 : PySem.W.keepIn K (.ref f10) = true)
    {od11 an11 : Option Addr} {sl11 : Array (Option Value)} {oc11 kV11 dc11 pm11 cd11 ct11 : Value}
    (a11 : PySem.W.nsIn K mainGlobals "is_house" = some (some (.ref f11))) (l11 : K.lookup f11 = some ⟨oc11, od11, .func (PySem.W.fnOf "is_house" "is_house" (defArgs st_is_house) (defBody st_is_house) (defScope st_is_house) .none kV11 dc11 pm11 an11 cd11 ct11), sl11⟩) (c11 : PySem.W.codeIn K cd11 "is_house" = true) (k11 : PySem.W.keepIn K (.ref f11) = true)
    {od12 an12 : Option Addr} {sl12 : Array (Option Value)} {oc12 kV12 dc12 pm12 cd12 ct12 : Value}
    (a12 : PySem.W.nsIn K mainGlobals "need_house" = some (some (.ref f12))) (l12 : K.lookup f12 = some ⟨oc12, od12, .func (PySem.W.fnOf "need_house" "need_house" (defArgs st_need_house) (defBody st_need_house) (defScope st_need_house) .none kV12 dc12 pm12 an12 cd12 ct12), sl12⟩) (c12 : PySem.W.codeIn K cd12 "need_house" = true) (k12 : PySem.W.keepIn K (.ref f12) = true)
    {od13 an13 : Option Addr} {sl13 : Array (Option Value)} {oc13 kV13 dc13 pm13 cd13 ct13 : Value}
    (a13 : PySem.W.nsIn K mainGlobals "need_stand" = some (some (.ref f13))) (l13 : K.lookup f13 = some ⟨oc13, od13, .func (PySem.W.fnOf "need_stand" "need_stand" (defArgs st_need_stand) (defBody st_need_stand) (defScope st_need_stand) .none kV13 dc13 pm13 an13 cd13 ct13), sl13⟩) (c13 : PySem.W.codeIn K cd13 "need_stand" = true) (k13 : PySem.W.keepIn K (.ref f13) = true)
    {od14 an14 : Option Addr} {sl14 : Array (Option Value)} {oc14 kV14 dc14 pm14 cd14 ct14 : Value}
    (a14 : PySem.W.nsIn K mainGlobals "hands" = some (some (.ref f14))) (l14 : K.lookup f14 = some ⟨oc14, od14, .func (PySem.W.fnOf "hands" "hands" (defArgs st_hands) (defBody st_hands) (defScope st_hands) .none kV14 dc14 pm14 an14 cd14 ct14), sl14⟩) (c14 : PySem.W.codeIn K cd14 "hands" = true) (k14 : PySem.W.keepIn K (.ref f14) = true)
    {od15 an15 : Option Addr} {sl15 : Array (Option Value)} {oc15 kV15 dc15 pm15 cd15 ct15 : Value}
    (a15 : PySem.W.nsIn K mainGlobals "first_stand" = some (some (.ref f15))) (l15 : K.lookup f15 = some ⟨oc15, od15, .func (PySem.W.fnOf "first_stand" "first_stand" (defArgs st_first_stand) (defBody st_first_stand) (defScope st_first_stand) .none kV15 dc15 pm15 an15 cd15 ct15), sl15⟩) (c15 : PySem.W.codeIn K cd15 "first_stand" = true) (k15 : PySem.W.keepIn K (.ref f15) = true)
    {od16 an16 : Option Addr} {sl16 : Array (Option Value)} {oc16 kV16 dc16 pm16 cd16 ct16 : Value}
    (a16 : PySem.W.nsIn K mainGlobals "is_stand" = some (some (.ref f16))) (l16 : K.lookup f16 = some ⟨oc16, od16, .func (PySem.W.fnOf "is_stand" "is_stand" (defArgs st_is_stand) (defBody st_is_stand) (defScope st_is_stand) .none kV16 dc16 pm16 an16 cd16 ct16), sl16⟩) (c16 : PySem.W.codeIn K cd16 "is_stand" = true) (k16 : PySem.W.keepIn K (.ref f16) = true)
    {od17 an17 : Option Addr} {sl17 : Array (Option Value)} {oc17 kV17 dc17 pm17 cd17 ct17 : Value}
    (a17 : PySem.W.nsIn K mainGlobals "numbers" = some (some (.ref f17))) (l17 : K.lookup f17 = some ⟨oc17, od17, .func (PySem.W.fnOf "numbers" "numbers" (defArgs st_numbers) (defBody st_numbers) (defScope st_numbers) .none kV17 dc17 pm17 an17 cd17 ct17), sl17⟩) (c17 : PySem.W.codeIn K cd17 "numbers" = true) (k17 : PySem.W.keepIn K (.ref f17) = true)
    {od18 an18 : Option Addr} {sl18 : Array (Option Value)} {oc18 kV18 dc18 pm18 cd18 ct18 : Value}
    (a18 : PySem.W.nsIn K mainGlobals "lifted" = some (some (.ref f18))) (l18 : K.lookup f18 = some ⟨oc18, od18, .func (PySem.W.fnOf "lifted" "lifted" (defArgs st_lifted) (defBody st_lifted) (defScope st_lifted) .none kV18 dc18 pm18 an18 cd18 ct18), sl18⟩) (c18 : PySem.W.codeIn K cd18 "lifted" = true) (k18 : PySem.W.keepIn K (.ref f18) = true)
    {od19 an19 : Option Addr} {sl19 : Array (Option Value)} {oc19 kV19 dc19 pm19 cd19 ct19 : Value}
    (a19 : PySem.W.nsIn K mainGlobals "may_go" = some (some (.ref f19))) (l19 : K.lookup f19 = some ⟨oc19, od19, .func (PySem.W.fnOf "may_go" "may_go" (defArgs st_may_go) (defBody st_may_go) (defScope st_may_go) .none kV19 dc19 pm19 an19 cd19 ct19), sl19⟩) (c19 : PySem.W.codeIn K cd19 "may_go" = true) (k19 : PySem.W.keepIn K (.ref f19) = true)
    {od20 an20 : Option Addr} {sl20 : Array (Option Value)} {oc20 kV20 dc20 pm20 cd20 ct20 : Value}
    (a20 : PySem.W.nsIn K mainGlobals "behind" = some (some (.ref f20))) (l20 : K.lookup f20 = some ⟨oc20, od20, .func (PySem.W.fnOf "behind" "behind" (defArgs st_behind) (defBody st_behind) (defScope st_behind) .none kV20 dc20 pm20 an20 cd20 ct20), sl20⟩) (c20 : PySem.W.codeIn K cd20 "behind" = true) (k20 : PySem.W.keepIn K (.ref f20) = true)
    {od21 an21 : Option Addr} {sl21 : Array (Option Value)} {oc21 kV21 dc21 pm21 cd21 ct21 : Value}
    (a21 : PySem.W.nsIn K mainGlobals "need_gone" = some (some (.ref f21))) (l21 : K.lookup f21 = some ⟨oc21, od21, .func (PySem.W.fnOf "need_gone" "need_gone" (defArgs st_need_gone) (defBody st_need_gone) (defScope st_need_gone) .none kV21 dc21 pm21 an21 cd21 ct21), sl21⟩) (c21 : PySem.W.codeIn K cd21 "need_gone" = true) (k21 : PySem.W.keepIn K (.ref f21) = true)
    {od22 an22 : Option Addr} {sl22 : Array (Option Value)} {oc22 kV22 dc22 pm22 cd22 ct22 : Value}
    (a22 : PySem.W.nsIn K mainGlobals "fill" = some (some (.ref f22))) (l22 : K.lookup f22 = some ⟨oc22, od22, .func (PySem.W.fnOf "fill" "fill" (defArgs st_fill) (defBody st_fill) (defScope st_fill) .none kV22 dc22 pm22 an22 cd22 ct22), sl22⟩) (c22 : PySem.W.codeIn K cd22 "fill" = true) (k22 : PySem.W.keepIn K (.ref f22) = true)
    {od23 an23 : Option Addr} {sl23 : Array (Option Value)} {oc23 kV23 dc23 pm23 cd23 ct23 : Value}
    (a23 : PySem.W.nsIn K mainGlobals "is_still" = some (some (.ref f23))) (l23 : K.lookup f23 = some ⟨oc23, od23, .func (PySem.W.fnOf "is_still" "is_still" (defArgs st_is_still) (defBody st_is_still) (defScope st_is_still) .none kV23 dc23 pm23 an23 cd23 ct23), sl23⟩) (c23 : PySem.W.codeIn K cd23 "is_still" = true) (k23 : PySem.W.keepIn K (.ref f23) = true)
    {od24 an24 : Option Addr} {sl24 : Array (Option Value)} {oc24 kV24 dc24 pm24 cd24 ct24 : Value}
    (a24 : PySem.W.nsIn K mainGlobals "played" = some (some (.ref f24))) (l24 : K.lookup f24 = some ⟨oc24, od24, .func (PySem.W.fnOf "played" "played" (defArgs st_played) (defBody st_played) (defScope st_played) .none kV24 dc24 pm24 an24 cd24 ct24), sl24⟩) (c24 : PySem.W.codeIn K cd24 "played" = true) (k24 : PySem.W.keepIn K (.ref f24) = true)
    {od25 an25 : Option Addr} {sl25 : Array (Option Value)} {oc25 kV25 dc25 pm25 cd25 ct25 : Value}
    (a25 : PySem.W.nsIn K mainGlobals "is_full" = some (some (.ref f25))) (l25 : K.lookup f25 = some ⟨oc25, od25, .func (PySem.W.fnOf "is_full" "is_full" (defArgs st_is_full) (defBody st_is_full) (defScope st_is_full) .none kV25 dc25 pm25 an25 cd25 ct25), sl25⟩) (c25 : PySem.W.codeIn K cd25 "is_full" = true) (k25 : PySem.W.keepIn K (.ref f25) = true)
    {od26 an26 : Option Addr} {sl26 : Array (Option Value)} {oc26 kV26 dc26 pm26 cd26 ct26 : Value}
    (a26 : PySem.W.nsIn K mainGlobals "gone_on" = some (some (.ref f26))) (l26 : K.lookup f26 = some ⟨oc26, od26, .func (PySem.W.fnOf "gone_on" "gone_on" (defArgs st_gone_on) (defBody st_gone_on) (defScope st_gone_on) .none kV26 dc26 pm26 an26 cd26 ct26), sl26⟩) (c26 : PySem.W.codeIn K cd26 "gone_on" = true) (k26 : PySem.W.keepIn K (.ref f26) = true)
    {od27 an27 : Option Addr} {sl27 : Array (Option Value)} {oc27 kV27 dc27 pm27 cd27 ct27 : Value}
    (a27 : PySem.W.nsIn K mainGlobals "end" = some (some (.ref f27))) (l27 : K.lookup f27 = some ⟨oc27, od27, .func (PySem.W.fnOf "end" "end" (defArgs st_end) (defBody st_end) (defScope st_end) .none kV27 dc27 pm27 an27 cd27 ct27), sl27⟩) (c27 : PySem.W.codeIn K cd27 "end" = true) (k27 : PySem.W.keepIn K (.ref f27) = true)
    {od28 an28 : Option Addr} {sl28 : Array (Option Value)} {oc28 kV28 dc28 pm28 cd28 ct28 : Value}
    (a28 : PySem.W.nsIn K mainGlobals "is_knot" = some (some (.ref f28))) (l28 : K.lookup f28 = some ⟨oc28, od28, .func (PySem.W.fnOf "is_knot" "is_knot" (defArgs st_is_knot) (defBody st_is_knot) (defScope st_is_knot) .none kV28 dc28 pm28 an28 cd28 ct28), sl28⟩) (c28 : PySem.W.codeIn K cd28 "is_knot" = true) (k28 : PySem.W.keepIn K (.ref f28) = true)
    {od29 an29 : Option Addr} {sl29 : Array (Option Value)} {oc29 kV29 dc29 pm29 cd29 ct29 : Value}
    (a29 : PySem.W.nsIn K mainGlobals "_law_b_spread" = some (some (.ref f29))) (l29 : K.lookup f29 = some ⟨oc29, od29, .func (PySem.W.fnOf "_law_b_spread" "_law_b_spread" (defArgs st__law_b_spread) (defBody st__law_b_spread) (defScope st__law_b_spread) .none kV29 dc29 pm29 an29 cd29 ct29), sl29⟩) (c29 : PySem.W.codeIn K cd29 "_law_b_spread" = true) (k29 : PySem.W.keepIn K (.ref f29) = true)
    {od30 an30 : Option Addr} {sl30 : Array (Option Value)} {oc30 kV30 dc30 pm30 cd30 ct30 : Value}
    (a30 : PySem.W.nsIn K mainGlobals "_law_b_digit" = some (some (.ref f30))) (l30 : K.lookup f30 = some ⟨oc30, od30, .func (PySem.W.fnOf "_law_b_digit" "_law_b_digit" (defArgs st__law_b_digit) (defBody st__law_b_digit) (defScope st__law_b_digit) .none kV30 dc30 pm30 an30 cd30 ct30), sl30⟩) (c30 : PySem.W.codeIn K cd30 "_law_b_digit" = true) (k30 : PySem.W.keepIn K (.ref f30) = true)
    {od31 an31 : Option Addr} {sl31 : Array (Option Value)} {oc31 kV31 dc31 pm31 cd31 ct31 : Value}
    (a31 : PySem.W.nsIn K mainGlobals "_law_b_members" = some (some (.ref f31))) (l31 : K.lookup f31 = some ⟨oc31, od31, .func (PySem.W.fnOf "_law_b_members" "_law_b_members" (defArgs st__law_b_members) (defBody st__law_b_members) (defScope st__law_b_members) .none kV31 dc31 pm31 an31 cd31 ct31), sl31⟩) (c31 : PySem.W.codeIn K cd31 "_law_b_members" = true) (k31 : PySem.W.keepIn K (.ref f31) = true)
    {od32 an32 : Option Addr} {sl32 : Array (Option Value)} {oc32 kV32 dc32 pm32 cd32 ct32 : Value}
    (a32 : PySem.W.nsIn K mainGlobals "_law_b_some" = some (some (.ref f32))) (l32 : K.lookup f32 = some ⟨oc32, od32, .func (PySem.W.fnOf "_law_b_some" "_law_b_some" (defArgs st__law_b_some) (defBody st__law_b_some) (defScope st__law_b_some) .none kV32 dc32 pm32 an32 cd32 ct32), sl32⟩) (c32 : PySem.W.codeIn K cd32 "_law_b_some" = true) (k32 : PySem.W.keepIn K (.ref f32) = true)
    {od33 an33 : Option Addr} {sl33 : Array (Option Value)} {oc33 kV33 dc33 pm33 cd33 ct33 : Value}
    (a33 : PySem.W.nsIn K mainGlobals "_law_b_deed" = some (some (.ref f33))) (l33 : K.lookup f33 = some ⟨oc33, od33, .func (PySem.W.fnOf "_law_b_deed" "_law_b_deed" (defArgs st__law_b_deed) (defBody st__law_b_deed) (defScope st__law_b_deed) .none kV33 dc33 pm33 an33 cd33 ct33), sl33⟩) (c33 : PySem.W.codeIn K cd33 "_law_b_deed" = true) (k33 : PySem.W.keepIn K (.ref f33) = true)
    {od34 an34 : Option Addr} {sl34 : Array (Option Value)} {oc34 kV34 dc34 pm34 cd34 ct34 : Value}
    (a34 : PySem.W.nsIn K mainGlobals "_law_b_handed" = some (some (.ref f34))) (l34 : K.lookup f34 = some ⟨oc34, od34, .func (PySem.W.fnOf "_law_b_handed" "_law_b_handed" (defArgs st__law_b_handed) (defBody st__law_b_handed) (defScope st__law_b_handed) .none kV34 dc34 pm34 an34 cd34 ct34), sl34⟩) (c34 : PySem.W.codeIn K cd34 "_law_b_handed" = true) (k34 : PySem.W.keepIn K (.ref f34) = true)
    {od35 an35 : Option Addr} {sl35 : Array (Option Value)} {oc35 kV35 dc35 pm35 cd35 ct35 : Value}
    (a35 : PySem.W.nsIn K mainGlobals "_law_b_script" = some (some (.ref f35))) (l35 : K.lookup f35 = some ⟨oc35, od35, .func (PySem.W.fnOf "_law_b_script" "_law_b_script" (defArgs st__law_b_script) (defBody st__law_b_script) (defScope st__law_b_script) .none kV35 dc35 pm35 an35 cd35 ct35), sl35⟩) (c35 : PySem.W.codeIn K cd35 "_law_b_script" = true) (k35 : PySem.W.keepIn K (.ref f35) = true)
    {od36 an36 : Option Addr} {sl36 : Array (Option Value)} {oc36 kV36 dc36 pm36 cd36 ct36 : Value}
    (a36 : PySem.W.nsIn K mainGlobals "_law_b_house" = some (some (.ref f36))) (l36 : K.lookup f36 = some ⟨oc36, od36, .func (PySem.W.fnOf "_law_b_house" "_law_b_house" (defArgs st__law_b_house) (defBody st__law_b_house) (defScope st__law_b_house) .none kV36 dc36 pm36 an36 cd36 ct36), sl36⟩) (c36 : PySem.W.codeIn K cd36 "_law_b_house" = true) (k36 : PySem.W.keepIn K (.ref f36) = true)
    {od37 an37 : Option Addr} {sl37 : Array (Option Value)} {oc37 kV37 dc37 pm37 cd37 ct37 : Value}
    (a37 : PySem.W.nsIn K mainGlobals "_law_b_door" = some (some (.ref f37))) (l37 : K.lookup f37 = some ⟨oc37, od37, .func (PySem.W.fnOf "_law_b_door" "_law_b_door" (defArgs st__law_b_door) (defBody st__law_b_door) (defScope st__law_b_door) .none kV37 dc37 pm37 an37 cd37 ct37), sl37⟩) (c37 : PySem.W.codeIn K cd37 "_law_b_door" = true) (k37 : PySem.W.keepIn K (.ref f37) = true)
    {od38 an38 : Option Addr} {sl38 : Array (Option Value)} {oc38 kV38 dc38 pm38 cd38 ct38 : Value}
    (a38 : PySem.W.nsIn K mainGlobals "_law_b_later_door" = some (some (.ref f38))) (l38 : K.lookup f38 = some ⟨oc38, od38, .func (PySem.W.fnOf "_law_b_later_door" "_law_b_later_door" (defArgs st__law_b_later_door) (defBody st__law_b_later_door) (defScope st__law_b_later_door) .none kV38 dc38 pm38 an38 cd38 ct38), sl38⟩) (c38 : PySem.W.codeIn K cd38 "_law_b_later_door" = true) (k38 : PySem.W.keepIn K (.ref f38) = true)
    {od39 an39 : Option Addr} {sl39 : Array (Option Value)} {oc39 kV39 dc39 pm39 cd39 ct39 : Value}
    (a39 : PySem.W.nsIn K mainGlobals "_law_b_refused" = some (some (.ref f39))) (l39 : K.lookup f39 = some ⟨oc39, od39, .func (PySem.W.fnOf "_law_b_refused" "_law_b_refused" (defArgs st__law_b_refused) (defBody st__law_b_refused) (defScope st__law_b_refused) .none kV39 dc39 pm39 an39 cd39 ct39), sl39⟩) (c39 : PySem.W.codeIn K cd39 "_law_b_refused" = true) (k39 : PySem.W.keepIn K (.ref f39) = true)
    {od40 an40 : Option Addr} {sl40 : Array (Option Value)} {oc40 kV40 dc40 pm40 cd40 ct40 : Value}
    (a40 : PySem.W.nsIn K mainGlobals "law" = some (some (.ref f40))) (l40 : K.lookup f40 = some ⟨oc40, od40, .func (PySem.W.fnOf "law" "law" (defArgs st_law) (defBody st_law) (defScope st_law) .none kV40 dc40 pm40 an40 cd40 ct40), sl40⟩) (c40 : PySem.W.codeIn K cd40 "law" = true) (k40 : PySem.W.keepIn K (.ref f40) = true)
    (z_isinstance : PySem.W.nsIn K mainGlobals "isinstance" = some none)
    (z_int : PySem.W.nsIn K mainGlobals "int" = some none)
    (z_bool : PySem.W.nsIn K mainGlobals "bool" = some none)
    (z_str : PySem.W.nsIn K mainGlobals "str" = some none)
    (z_len : PySem.W.nsIn K mainGlobals "len" = some none)
    (z_all : PySem.W.nsIn K mainGlobals "all" = some none)
    (z_tuple : PySem.W.nsIn K mainGlobals "tuple" = some none)
    (z_list : PySem.W.nsIn K mainGlobals "list" = some none)
    (z_enumerate : PySem.W.nsIn K mainGlobals "enumerate" = some none)
    (z_range : PySem.W.nsIn K mainGlobals "range" = some none)
    (z_ValueError : PySem.W.nsIn K mainGlobals "ValueError" = some none)
    {tk_LETTERS : Tok} (z_LETTERS : PySem.W.nsIn K mainGlobals "LETTERS" = some (some (.str "abcdefghijklmnopqrstuvwxyz" tk_LETTERS)))
    {A_MODES : Addr} {t0_MODES t1_MODES t2_MODES : Tok} {dd_MODES : Option Addr} {n_MODES : Nat} {sl_MODES : Array (Option Value)} (z_MODES : PySem.W.nsIn K mainGlobals "MODES" = some (some (.ref A_MODES))) (lk_MODES : K.lookup A_MODES = some ⟨.type "tuple", dd_MODES, .seq #[.str "both" t0_MODES, .str "come" t1_MODES, .str "go" t2_MODES] n_MODES, sl_MODES⟩)
    {tk_MOST_DEEDS : Tok} (z_MOST_DEEDS : PySem.W.nsIn K mainGlobals "MOST_DEEDS" = some (some (.int 80 tk_MOST_DEEDS)))
    {tk_MOST_HANDS : Tok} (z_MOST_HANDS : PySem.W.nsIn K mainGlobals "MOST_HANDS" = some (some (.int 60 tk_MOST_HANDS)))
    {tk_MOST_IN_ALL : Tok} (z_MOST_IN_ALL : PySem.W.nsIn K mainGlobals "MOST_IN_ALL" = some (some (.int 1200 tk_MOST_IN_ALL)))
    {tk_MOST_BOXES : Tok} (z_MOST_BOXES : PySem.W.nsIn K mainGlobals "MOST_BOXES" = some (some (.int 99 tk_MOST_BOXES)))
    {tk_WALLS_AT_MOST : Tok} (z_WALLS_AT_MOST : PySem.W.nsIn K mainGlobals "WALLS_AT_MOST" = some (some (.int 6 tk_WALLS_AT_MOST)))
    {tk_MOST_FIRSTS : Tok} (z_MOST_FIRSTS : PySem.W.nsIn K mainGlobals "MOST_FIRSTS" = some (some (.int 40 tk_MOST_FIRSTS)))
    {tk_MOST_SCRIPTS : Tok} (z_MOST_SCRIPTS : PySem.W.nsIn K mainGlobals "MOST_SCRIPTS" = some (some (.int 20 tk_MOST_SCRIPTS)))
    {C_NoHouse : Addr} (ac_NoHouse : PySem.W.nsIn K mainGlobals "NoHouse" = some (some (.ref C_NoHouse)))
    {C_WallError : Addr} (ac_WallError : PySem.W.nsIn K mainGlobals "WallError" = some (some (.ref C_WallError)))
    {C_NoStand : Addr} (ac_NoStand : PySem.W.nsIn K mainGlobals "NoStand" = some (some (.ref C_NoStand)))
    {C_NoHand : Addr} (ac_NoHand : PySem.W.nsIn K mainGlobals "NoHand" = some (some (.ref C_NoHand)))
    {C_NoDeed : Addr} (ac_NoDeed : PySem.W.nsIn K mainGlobals "NoDeed" = some (some (.ref C_NoDeed)))
    {C_NoWall : Addr} (ac_NoWall : PySem.W.nsIn K mainGlobals "NoWall" = some (some (.ref C_NoWall)))
    {C_NoCount : Addr} (ac_NoCount : PySem.W.nsIn K mainGlobals "NoCount" = some (some (.ref C_NoCount)))
    {C_TooMany : Addr} (ac_TooMany : PySem.W.nsIn K mainGlobals "TooMany" = some (some (.ref C_TooMany)))
    {C_NoText : Addr} (ac_NoText : PySem.W.nsIn K mainGlobals "NoText" = some (some (.ref C_NoText)))
    {C_NoRow : Addr} (ac_NoRow : PySem.W.nsIn K mainGlobals "NoRow" = some (some (.ref C_NoRow)))
    {C_NoName : Addr} (ac_NoName : PySem.W.nsIn K mainGlobals "NoName" = some (some (.ref C_NoName)))
    (ex_NoHouse : PySem.W.excIn K C_NoHouse [.type "ValueError", .type "Exception", .type "BaseException", .type "object"] "ValueError.__new__" = true)
    (ek_NoHouse : PySem.W.keepIn K (.ref C_NoHouse) = true)
    (es_NoHouse : PySem.W.subIn K (.ref C_NoHouse) (.type "BaseException") = some true)
    (et_NoHouse : PySem.W.typeIn K (.ref C_NoHouse) = some (.type "type"))
    (xg_NoHouse : PySem.W.findIn K (.ref C_NoHouse) "__getattribute__" = some (some (.builtin "BaseException.__getattribute__")))
    (xk_NoHouse : PySem.W.findIn K (.ref C_NoHouse) "__getattr__" = some none)
    (xd_NoHouse : PySem.W.hasDictIn K C_NoHouse = true)
    (xa_NoHouse : PySem.W.findIn K (.ref C_NoHouse) "__class__" = some (some (.builtin "object.__class__")))
    (xm_NoHouse : PySem.W.mroIn K C_NoHouse (.type "object") = some true)
    (x_n : PySem.W.specialIn K (.builtin "object.__class__") "__get__" = some (some (.builtin "getset_descriptor.__get__")))
    (x_t : PySem.W.takesIn K (.builtin "object.__class__") = some true)
    (tm_WallError_NoHouse : PySem.W.exmOne K (.ref C_NoHouse) (.ref C_WallError) = some true)
    (ki_NoHouse_NoHouse : PySem.W.kitOne K (.ref C_NoHouse) (.ref C_NoHouse) = some true)
    (ki_NoStand_NoHouse : PySem.W.kitOne K (.ref C_NoHouse) (.ref C_NoStand) = some false)
    (ki_NoHand_NoHouse : PySem.W.kitOne K (.ref C_NoHouse) (.ref C_NoHand) = some false)
    (ki_NoDeed_NoHouse : PySem.W.kitOne K (.ref C_NoHouse) (.ref C_NoDeed) = some false)
    (ki_NoWall_NoHouse : PySem.W.kitOne K (.ref C_NoHouse) (.ref C_NoWall) = some false)
    (ki_NoCount_NoHouse : PySem.W.kitOne K (.ref C_NoHouse) (.ref C_NoCount) = some false)
    (ki_TooMany_NoHouse : PySem.W.kitOne K (.ref C_NoHouse) (.ref C_TooMany) = some false)
    (ki_NoText_NoHouse : PySem.W.kitOne K (.ref C_NoHouse) (.ref C_NoText) = some false)
    (ki_NoRow_NoHouse : PySem.W.kitOne K (.ref C_NoHouse) (.ref C_NoRow) = some false)
    (ki_NoName_NoHouse : PySem.W.kitOne K (.ref C_NoHouse) (.ref C_NoName) = some false)
    (ki_ValueError_NoHouse : PySem.W.kitOne K (.ref C_NoHouse) (.type "ValueError") = some true)
    : ∃ fd : FuncData, (∀ (s : Shared) (v : Value), BindsTo s fd ⟨[v], []⟩ [("script", v)]) ∧ ∀ base : Heap, K.In base → base.Ns mainGlobals mg → FnOk l.prog w K mg base CX0 13 fa fd ["script"] (spLaw K) := by
  have e := hfa.symm.trans (PySem.W.mg_of X G a40)
  cases e
  have F0 := fun_mk (st := st_is_whole) l0 c0 k0
  have b0 := F0.binds (ps := ["thing"]) fun _ _ _ _ _ _ us hl => match us, hl with | [_], _ => rfl
  have F1 := fun_mk (st := st_is_from_to) l1 c1 k1
  have b1 := F1.binds (ps := ["thing", "least", "most"]) fun _ _ _ _ _ _ us hl => match us, hl with | [_, _, _], _ => rfl
  have F2 := fun_mk (st := st_is_word) l2 c2 k2
  have b2 := F2.binds (ps := ["thing"]) fun _ _ _ _ _ _ us hl => match us, hl with | [_], _ => rfl
  have F3 := fun_mk (st := st_is_members) l3 c3 k3
  have b3 := F3.binds (ps := ["walls", "thing"]) fun _ _ _ _ _ _ us hl => match us, hl with | [_, _], _ => rfl
  have F4 := fun_mk (st := st_is_deed) l4 c4 k4
  have b4 := F4.binds (ps := ["boxes", "walls", "scripts", "at", "thing"]) fun _ _ _ _ _ _ us hl => match us, hl with | [_, _, _, _, _], _ => rfl
  have F5 := fun_mk (st := st_is_calling) l5 c5 k5
  have b5 := F5.binds (ps := ["walls", "scripts", "thing"]) fun _ _ _ _ _ _ us hl => match us, hl with | [_, _, _], _ => rfl
  have F6 := fun_mk (st := st_is_script) l6 c6 k6
  have b6 := F6.binds (ps := ["boxes", "walls", "scripts", "at", "thing"]) fun _ _ _ _ _ _ us hl => match us, hl with | [_, _, _, _, _], _ => rfl
  have F7 := fun_mk (st := st_has_mode) l7 c7 k7
  have b7 := F7.binds (ps := ["have", "wall", "modes"]) fun _ _ _ _ _ _ us hl => match us, hl with | [_, _, _], _ => rfl
  have F8 := fun_mk (st := st_may_do_with) l8 c8 k8
  have b8 := F8.binds (ps := ["have", "deed"]) fun _ _ _ _ _ _ us hl => match us, hl with | [_, _], _ => rfl
  have F9 := fun_mk (st := st_script_fits) l9 c9 k9
  have b9 := F9.binds (ps := ["script", "members"]) fun _ _ _ _ _ _ us hl => match us, hl with | [_, _], _ => rfl
  have F10 := fun_mk (st := st_are_called_well) l10 c10 k10
  have b10 := F10.binds (ps := ["firsts", "scripts"]) fun _ _ _ _ _ _ us hl => match us, hl with | [_, _], _ => rfl
  have F11 := fun_mk (st := st_is_house) l11 c11 k11
  have b11 := F11.binds (ps := ["thing"]) fun _ _ _ _ _ _ us hl => match us, hl with | [_], _ => rfl
  have F12 := fun_mk (st := st_need_house) l12 c12 k12
  have b12 := F12.binds (ps := ["thing"]) fun _ _ _ _ _ _ us hl => match us, hl with | [_], _ => rfl
  have F13 := fun_mk (st := st_need_stand) l13 c13 k13
  have b13 := F13.binds (ps := ["house", "stand"]) fun _ _ _ _ _ _ us hl => match us, hl with | [_, _], _ => rfl
  have F14 := fun_mk (st := st_hands) l14 c14 k14
  have b14 := F14.binds (ps := ["house"]) fun _ _ _ _ _ _ us hl => match us, hl with | [_], _ => rfl
  have F15 := fun_mk (st := st_first_stand) l15 c15 k15
  have b15 := F15.binds (ps := ["house"]) fun _ _ _ _ _ _ us hl => match us, hl with | [_], _ => rfl
  have F16 := fun_mk (st := st_is_stand) l16 c16 k16
  have b16 := F16.binds (ps := ["house", "thing"]) fun _ _ _ _ _ _ us hl => match us, hl with | [_, _], _ => rfl
  have F17 := fun_mk (st := st_numbers) l17 c17 k17
  have b17 := F17.binds (ps := ["house", "stand"]) fun _ _ _ _ _ _ us hl => match us, hl with | [_, _], _ => rfl
  have F18 := fun_mk (st := st_lifted) l18 c18 k18
  have b18 := F18.binds (ps := ["house", "stand", "wall"]) fun _ _ _ _ _ _ us hl => match us, hl with | [_, _, _], _ => rfl
  have F19 := fun_mk (st := st_may_go) l19 c19 k19
  have b19 := F19.binds (ps := ["house", "stand"]) fun _ _ _ _ _ _ us hl => match us, hl with | [_, _], _ => rfl
  have F20 := fun_mk (st := st_behind) l20 c20 k20
  have b20 := F20.binds (ps := ["house", "stand", "hand"]) fun _ _ _ _ _ _ us hl => match us, hl with | [_, _, _], _ => rfl
  have F21 := fun_mk (st := st_need_gone) l21 c21 k21
  have b21 := F21.binds (ps := ["house", "weaving"]) fun _ _ _ _ _ _ us hl => match us, hl with | [_, _], _ => rfl
  have F22 := fun_mk (st := st_fill) l22 c22 k22
  have b22 := F22.binds (ps := ["going", "held"]) fun _ _ _ _ _ _ us hl => match us, hl with | [_, _], _ => rfl
  have F23 := fun_mk (st := st_is_still) l23 c23 k23
  have b23 := F23.binds (ps := ["going"]) fun _ _ _ _ _ _ us hl => match us, hl with | [_], _ => rfl
  have F24 := fun_mk (st := st_played) l24 c24 k24
  have b24 := F24.binds (ps := ["house", "weaving"]) fun _ _ _ _ _ _ us hl => match us, hl with | [_, _], _ => rfl
  have F25 := fun_mk (st := st_is_full) l25 c25 k25
  have b25 := F25.binds (ps := ["house", "weaving"]) fun _ _ _ _ _ _ us hl => match us, hl with | [_, _], _ => rfl
  have F26 := fun_mk (st := st_gone_on) l26 c26 k26
  have b26 := F26.binds (ps := ["house", "weaving"]) fun _ _ _ _ _ _ us hl => match us, hl with | [_, _], _ => rfl
  have F27 := fun_mk (st := st_end) l27 c27 k27
  have b27 := F27.binds (ps := ["house"]) fun _ _ _ _ _ _ us hl => match us, hl with | [_], _ => rfl
  have F28 := fun_mk (st := st_is_knot) l28 c28 k28
  have b28 := F28.binds (ps := ["house", "weaving", "waits"]) fun _ _ _ _ _ _ us hl => match us, hl with | [_, _, _], _ => rfl
  have F29 := fun_mk (st := st__law_b_spread) l29 c29 k29
  have b29 := F29.binds (ps := ["cell", "place"]) fun _ _ _ _ _ _ us hl => match us, hl with | [_, _], _ => rfl
  have F30 := fun_mk (st := st__law_b_digit) l30 c30 k30
  have b30 := F30.binds (ps := ["tape", "many"]) fun _ _ _ _ _ _ us hl => match us, hl with | [_, _], _ => rfl
  have F31 := fun_mk (st := st__law_b_members) l31 c31 k31
  have b31 := F31.binds (ps := ["tape", "walls"]) fun _ _ _ _ _ _ us hl => match us, hl with | [_, _], _ => rfl
  have F32 := fun_mk (st := st__law_b_some) l32 c32 k32
  have b32 := F32.binds (ps := ["tape", "row"]) fun _ _ _ _ _ _ us hl => match us, hl with | [_, _], _ => rfl
  have F33 := fun_mk (st := st__law_b_deed) l33 c33 k33
  have b33 := F33.binds (ps := ["tape", "boxes", "have", "calls"]) fun _ _ _ _ _ _ us hl => match us, hl with | [_, _, _, _], _ => rfl
  have F34 := fun_mk (st := st__law_b_handed) l34 c34 k34
  have b34 := F34.binds (ps := ["have", "members"]) fun _ _ _ _ _ _ us hl => match us, hl with | [_, _], _ => rfl
  have F35 := fun_mk (st := st__law_b_script) l35 c35 k35
  have b35 := F35.binds (ps := ["tape", "boxes", "members", "known", "most"]) fun _ _ _ _ _ _ us hl => match us, hl with | [_, _, _, _, _], _ => rfl
  have F36 := fun_mk (st := st__law_b_house) l36 c36 k36
  have b36 := F36.binds (ps := ["tape", "scripts", "firsts", "most"]) fun _ _ _ _ _ _ us hl => match us, hl with | [_, _, _, _], _ => rfl
  have F37 := fun_mk (st := st__law_b_door) l37 c37 k37
  have b37 := F37.binds (ps := ["way", "house"]) fun _ _ _ _ _ _ us hl => match us, hl with | [_, _], _ => rfl
  have F38 := fun_mk (st := st__law_b_later_door) l38 c38 k38
  have b38 := F38.binds (ps := ["way", "house"]) fun _ _ _ _ _ _ us hl => match us, hl with | [_, _], _ => rfl
  have F39 := fun_mk (st := st__law_b_refused) l39 c39 k39
  have b39 := F39.binds (ps := ["way", "house"]) fun _ _ _ _ _ _ us hl => match us, hl with | [_, _], _ => rfl
  have F40 := fun_mk (st := st_law) l40 c40 k40
  have y_isinstance := PySem.W.mg_none_of X G z_isinstance
  have y_int := PySem.W.mg_none_of X G z_int
  have y_bool := PySem.W.mg_none_of X G z_bool
  have y_str := PySem.W.mg_none_of X G z_str
  have y_len := PySem.W.mg_none_of X G z_len
  have y_all := PySem.W.mg_none_of X G z_all
  have y_tuple := PySem.W.mg_none_of X G z_tuple
  have y_list := PySem.W.mg_none_of X G z_list
  have y_enumerate := PySem.W.mg_none_of X G z_enumerate
  have y_range := PySem.W.mg_none_of X G z_range
  have y_ValueError := PySem.W.mg_none_of X G z_ValueError
  have y_LETTERS := glob_str X G z_LETTERS
  have y_MODES : GlobT K mg "MODES" ["both", "come", "go"] := ⟨A_MODES, PySem.W.mg_of X G z_MODES, fun H => .inr ⟨_, _, _, lk_MODES, rfl, rfl, (by show 3 ≤ sizeLine; rw [sizeLine_eq]; decide), (.cons ⟨t0_MODES, rfl⟩ (.cons ⟨t1_MODES, rfl⟩ (.cons ⟨t2_MODES, rfl⟩ .nil)))⟩⟩
  have y_MOST_DEEDS := glob_int X G z_MOST_DEEDS
  have y_MOST_HANDS := glob_int X G z_MOST_HANDS
  have y_MOST_IN_ALL := glob_int X G z_MOST_IN_ALL
  have y_MOST_BOXES := glob_int X G z_MOST_BOXES
  have y_WALLS_AT_MOST := glob_int X G z_WALLS_AT_MOST
  have y_MOST_FIRSTS := glob_int X G z_MOST_FIRSTS
  have y_MOST_SCRIPTS := glob_int X G z_MOST_SCRIPTS
  have g_NoHouse := PySem.W.mg_of X G ac_NoHouse
  have g_WallError := PySem.W.mg_of X G ac_WallError
  have g_NoStand := PySem.W.mg_of X G ac_NoStand
  have g_NoHand := PySem.W.mg_of X G ac_NoHand
  have g_NoDeed := PySem.W.mg_of X G ac_NoDeed
  have g_NoWall := PySem.W.mg_of X G ac_NoWall
  have g_NoCount := PySem.W.mg_of X G ac_NoCount
  have g_TooMany := PySem.W.mg_of X G ac_TooMany
  have g_NoText := PySem.W.mg_of X G ac_NoText
  have g_NoRow := PySem.W.mg_of X G ac_NoRow
  have g_NoName := PySem.W.mg_of X G ac_NoName
  have e_NoHouse : ErrC K mg "NoHouse" := ⟨C_NoHouse, g_NoHouse, ex_NoHouse, ek_NoHouse, es_NoHouse, et_NoHouse⟩
  have x_NoHouse : ExcC K C_NoHouse := ⟨xg_NoHouse, xk_NoHouse, es_NoHouse, xd_NoHouse, xa_NoHouse, x_n, x_t, xm_NoHouse⟩
  have t_WallError : CatC K mg "WallError" ["NoHouse"] := ⟨C_WallError, g_WallError, (err_c (fun D hD => by have e := (g_NoHouse).symm.trans hD; cases e; exact tm_WallError_NoHouse) err_n)⟩
  have i_NoHouse : IsC K mg "NoHouse" [("NoHouse", true)] := ⟨C_NoHouse, g_NoHouse, (err_c (fun D hD => by have e := (g_NoHouse).symm.trans hD; cases e; exact ⟨x_NoHouse, ki_NoHouse_NoHouse⟩) err_n)⟩
  have i_NoStand : IsC K mg "NoStand" [("NoHouse", false)] := ⟨C_NoStand, g_NoStand, (err_c (fun D hD => by have e := (g_NoHouse).symm.trans hD; cases e; exact ⟨x_NoHouse, ki_NoStand_NoHouse⟩) err_n)⟩
  have i_NoHand : IsC K mg "NoHand" [("NoHouse", false)] := ⟨C_NoHand, g_NoHand, (err_c (fun D hD => by have e := (g_NoHouse).symm.trans hD; cases e; exact ⟨x_NoHouse, ki_NoHand_NoHouse⟩) err_n)⟩
  have i_NoDeed : IsC K mg "NoDeed" [("NoHouse", false)] := ⟨C_NoDeed, g_NoDeed, (err_c (fun D hD => by have e := (g_NoHouse).symm.trans hD; cases e; exact ⟨x_NoHouse, ki_NoDeed_NoHouse⟩) err_n)⟩
  have i_NoWall : IsC K mg "NoWall" [("NoHouse", false)] := ⟨C_NoWall, g_NoWall, (err_c (fun D hD => by have e := (g_NoHouse).symm.trans hD; cases e; exact ⟨x_NoHouse, ki_NoWall_NoHouse⟩) err_n)⟩
  have i_NoCount : IsC K mg "NoCount" [("NoHouse", false)] := ⟨C_NoCount, g_NoCount, (err_c (fun D hD => by have e := (g_NoHouse).symm.trans hD; cases e; exact ⟨x_NoHouse, ki_NoCount_NoHouse⟩) err_n)⟩
  have i_TooMany : IsC K mg "TooMany" [("NoHouse", false)] := ⟨C_TooMany, g_TooMany, (err_c (fun D hD => by have e := (g_NoHouse).symm.trans hD; cases e; exact ⟨x_NoHouse, ki_TooMany_NoHouse⟩) err_n)⟩
  have i_NoText : IsC K mg "NoText" [("NoHouse", false)] := ⟨C_NoText, g_NoText, (err_c (fun D hD => by have e := (g_NoHouse).symm.trans hD; cases e; exact ⟨x_NoHouse, ki_NoText_NoHouse⟩) err_n)⟩
  have i_NoRow : IsC K mg "NoRow" [("NoHouse", false)] := ⟨C_NoRow, g_NoRow, (err_c (fun D hD => by have e := (g_NoHouse).symm.trans hD; cases e; exact ⟨x_NoHouse, ki_NoRow_NoHouse⟩) err_n)⟩
  have i_NoName : IsC K mg "NoName" [("NoHouse", false)] := ⟨C_NoName, g_NoName, (err_c (fun D hD => by have e := (g_NoHouse).symm.trans hD; cases e; exact ⟨x_NoHouse, ki_NoName_NoHouse⟩) err_n)⟩
  have i_ValueError : IsB K mg "ValueError" [("NoHouse", true)] := ⟨(err_c (fun D hD => by have e := (g_NoHouse).symm.trans hD; cases e; exact ⟨x_NoHouse, ki_ValueError_NoHouse⟩) err_n)⟩
  refine ⟨PySem.W.fnOf "law" "law" (defArgs st_law) (defBody st_law) (defScope st_law) .none kV40 dc40 pm40 an40 cd40 ct40, fun s v => .of_eq rfl, fun base _ _ => ?_⟩
  have C0 := ok_is_whole (P := l.prog) (w := w) (base := base) (k := 0) F0 b0 (PySem.W.mg_of X G a0) y_isinstance y_int y_bool
  have C1 := ok_is_from_to (P := l.prog) (w := w) (base := base) (k := 1) F1 b1 (PySem.W.mg_of X G a1) (C0.up (by decide))
  have C2 := ok_is_word (P := l.prog) (w := w) (base := base) (k := 0) F2 b2 (PySem.W.mg_of X G a2) y_isinstance y_str y_len y_all y_LETTERS
  have C3 := ok_is_members (P := l.prog) (w := w) (base := base) (k := 2) F3 b3 (PySem.W.mg_of X G a3) (C1.up (by decide)) y_isinstance y_tuple y_len y_str y_MODES
  have C4 := ok_is_deed (P := l.prog) (w := w) (base := base) (k := 3) F4 b4 (PySem.W.mg_of X G a4) (C1.up (by decide)) (C3.up (by decide)) (C2.up (by decide)) y_isinstance y_tuple y_len y_str
  have C5 := ok_is_calling (P := l.prog) (w := w) (base := base) (k := 3) F5 b5 (PySem.W.mg_of X G a5) (C1.up (by decide)) (C3.up (by decide)) y_isinstance y_tuple y_len
  have C6 := ok_is_script (P := l.prog) (w := w) (base := base) (k := 4) F6 b6 (PySem.W.mg_of X G a6) (C4.up (by decide)) y_isinstance y_tuple y_len y_all y_MOST_DEEDS
  have C7 := ok_has_mode (P := l.prog) (w := w) (base := base) (k := 0) F7 b7 (PySem.W.mg_of X G a7)
  have C8 := ok_may_do_with (P := l.prog) (w := w) (base := base) (k := 1) F8 b8 (PySem.W.mg_of X G a8) (C7.up (by decide)) y_all
  have C9 := ok_script_fits (P := l.prog) (w := w) (base := base) (k := 2) F9 b9 (PySem.W.mg_of X G a9) (C8.up (by decide))
  have C10 := ok_are_called_well (P := l.prog) (w := w) (base := base) (k := 3) F10 b10 (PySem.W.mg_of X G a10) (C9.up (by decide)) y_list y_len y_MOST_HANDS y_MOST_IN_ALL
  have C11 := ok_is_house (P := l.prog) (w := w) (base := base) (k := 5) F11 b11 (PySem.W.mg_of X G a11) (C1.up (by decide)) (C6.up (by decide)) (C5.up (by decide)) (C10.up (by decide)) y_isinstance y_tuple y_len y_enumerate y_all y_MOST_BOXES y_WALLS_AT_MOST y_MOST_FIRSTS y_MOST_SCRIPTS
  have C12 := ok_need_house (P := l.prog) (w := w) (base := base) (k := 6) F12 b12 (PySem.W.mg_of X G a12) (C11.up (by decide)) e_NoHouse
  have C13 := ok_need_stand (P := l.prog) (w := w) (base := base) (k := 7) F13 b13 (PySem.W.mg_of X G a13) (C12.up (by decide))
  have C14 := ok_hands (P := l.prog) (w := w) (base := base) (k := 7) F14 b14 (PySem.W.mg_of X G a14) (C12.up (by decide))
  have C15 := ok_first_stand (P := l.prog) (w := w) (base := base) (k := 7) F15 b15 (PySem.W.mg_of X G a15) (C12.up (by decide))
  have C16 := ok_is_stand (P := l.prog) (w := w) (base := base) (k := 7) F16 b16 (PySem.W.mg_of X G a16) (C12.up (by decide))
  have C17 := ok_numbers (P := l.prog) (w := w) (base := base) (k := 8) F17 b17 (PySem.W.mg_of X G a17) (C13.up (by decide))
  have C18 := ok_lifted (P := l.prog) (w := w) (base := base) (k := 8) F18 b18 (PySem.W.mg_of X G a18) (C13.up (by decide))
  have C19 := ok_may_go (P := l.prog) (w := w) (base := base) (k := 8) F19 b19 (PySem.W.mg_of X G a19) (C13.up (by decide))
  have C20 := ok_behind (P := l.prog) (w := w) (base := base) (k := 8) F20 b20 (PySem.W.mg_of X G a20) (C13.up (by decide))
  have C21 := ok_need_gone (P := l.prog) (w := w) (base := base) (k := 7) F21 b21 (PySem.W.mg_of X G a21) (C12.up (by decide))
  have C22 := ok_fill (P := l.prog) (w := w) (base := base) (k := 0) F22 b22 (PySem.W.mg_of X G a22)
  have C23 := ok_is_still (P := l.prog) (w := w) (base := base) (k := 0) F23 b23 (PySem.W.mg_of X G a23)
  have C24 := ok_played (P := l.prog) (w := w) (base := base) (k := 8) F24 b24 (PySem.W.mg_of X G a24) (C21.up (by decide))
  have C25 := ok_is_full (P := l.prog) (w := w) (base := base) (k := 8) F25 b25 (PySem.W.mg_of X G a25) (C23.up (by decide)) (C21.up (by decide))
  have C26 := ok_gone_on (P := l.prog) (w := w) (base := base) (k := 8) F26 b26 (PySem.W.mg_of X G a26) (C22.up (by decide)) (C21.up (by decide))
  have C27 := ok_end (P := l.prog) (w := w) (base := base) (k := 7) F27 b27 (PySem.W.mg_of X G a27) (C12.up (by decide))
  have C28 := ok_is_knot (P := l.prog) (w := w) (base := base) (k := 7) F28 b28 (PySem.W.mg_of X G a28) (C12.up (by decide))
  have C29 := ok__law_b_spread (P := l.prog) (w := w) (base := base) (k := 0) F29 b29 (PySem.W.mg_of X G a29)
  have C30 := ok__law_b_digit (P := l.prog) (w := w) (base := base) (k := 1) F30 b30 (PySem.W.mg_of X G a30) (C29.up (by decide)) y_len
  have C31 := ok__law_b_members (P := l.prog) (w := w) (base := base) (k := 2) F31 b31 (PySem.W.mg_of X G a31) (C30.up (by decide)) y_range y_tuple
  have C32 := ok__law_b_some (P := l.prog) (w := w) (base := base) (k := 2) F32 b32 (PySem.W.mg_of X G a32) (C30.up (by decide)) y_len
  have C33 := ok__law_b_deed (P := l.prog) (w := w) (base := base) (k := 3) F33 b33 (PySem.W.mg_of X G a33) (C30.up (by decide)) (C32.up (by decide)) y_list
  have C34 := ok__law_b_handed (P := l.prog) (w := w) (base := base) (k := 0) F34 b34 (PySem.W.mg_of X G a34) y_all
  have C35 := ok__law_b_script (P := l.prog) (w := w) (base := base) (k := 4) F35 b35 (PySem.W.mg_of X G a35) (C30.up (by decide)) (C34.up (by decide)) (C33.up (by decide)) y_range y_int y_tuple
  have C36 := ok__law_b_house (P := l.prog) (w := w) (base := base) (k := 5) F36 b36 (PySem.W.mg_of X G a36) (C30.up (by decide)) (C31.up (by decide)) (C35.up (by decide)) (C32.up (by decide)) y_range y_tuple
  have C37 := ok__law_b_door (P := l.prog) (w := w) (base := base) (k := 9) F37 b37 (PySem.W.mg_of X G a37) (C12.up (by decide)) (C14.up (by decide)) (C15.up (by decide)) (C16.up (by decide)) (C17.up (by decide)) (C18.up (by decide)) (C19.up (by decide)) (C20.up (by decide))
  have C38 := ok__law_b_later_door (P := l.prog) (w := w) (base := base) (k := 10) F38 b38 (PySem.W.mg_of X G a38) (C24.up (by decide)) (C25.up (by decide)) (C26.up (by decide)) (C27.up (by decide)) (C28.up (by decide)) (C37.up (by decide))
  have C39 := ok__law_b_refused (P := l.prog) (w := w) (base := base) (k := 11) F39 b39 (PySem.W.mg_of X G a39) (C38.up (by decide)) y_isinstance y_ValueError t_WallError i_NoHouse i_NoStand i_NoHand i_NoDeed i_NoWall i_NoCount i_TooMany i_NoText i_NoRow i_NoName i_ValueError
  exact law_ok (ok_law (P := l.prog) (w := w) (base := base) (k := 12) F40 (C36.up (by decide)) (C12.up (by decide)) (C39.up (by decide)) y_range y_len) law_true
end G
end DL
end L2
open PySem PySem.W PyProof.Rows
set_option maxRecDepth 100000 in
set_option maxHeartbeats 0 in
theorem PySem.Challenge.cw_meetwall_k04_no_houses_holds : PySem.Challenge.rw_meetwall_k04_no_houses.Holds := by
  w_on; o_law; k_head; (case hw => w_witness2)
  k_fill
  refine L2.walk_of (l := PySem.Challenge.rw_meetwall_k04_no_houses) (n := 63) (k := 13) (x := "script") (CX := fun _ => L2.CX0) (sp := fun w => L2.DL.spLaw _) rfl (by decide) rfl ⟨rfl, by decide, by decide⟩ (fun w h Y => PySem.W.kIn_of Y) ?F (fun _ _ a ns hl hO hS => ⟨a, ns, rfl, L2.DL.only_fz hO hS, hl, fun _ => rfl⟩) (fun _ _ _ _ _ h => h)
  case F =>
    intro w mg fa h KX G hmg
    refine' L2.DL.G.all_mk KX G hmg ?a0 ?l0 ?c0 ?k0 ?a1 ?l1 ?c1 ?k1 ?a2 ?l2 ?c2 ?k2 ?a3 ?l3 ?c3 ?k3 ?a4 ?l4 ?c4 ?k4 ?a5 ?l5 ?c5 ?k5 ?a6 ?l6 ?c6 ?k6 ?a7 ?l7 ?c7 ?k7 ?a8 ?l8 ?c8 ?k8 ?a9 ?l9 ?c9 ?k9 ?a10 ?l10 ?c10 ?k10 ?a11 ?l11 ?c11 ?k11 ?a12 ?l12 ?c12 ?k12 ?a13 ?l13 ?c13 ?k13 ?a14 ?l14 ?c14 ?k14 ?a15 ?l15 ?c15 ?k15 ?a16 ?l16 ?c16 ?k16 ?a17 ?l17 ?c17 ?k17 ?a18 ?l18 ?c18 ?k18 ?a19 ?l19 ?c19 ?k19 ?a20 ?l20 ?c20 ?k20 ?a21 ?l21 ?c21 ?k21 ?a22 ?l22 ?c22 ?k22 ?a23 ?l23 ?c23 ?k23 ?a24 ?l24 ?c24 ?k24 ?a25 ?l25 ?c25 ?k25 ?a26 ?l26 ?c26 ?k26 ?a27 ?l27 ?c27 ?k27 ?a28 ?l28 ?c28 ?k28 ?a29 ?l29 ?c29 ?k29 ?a30 ?l30 ?c30 ?k30 ?a31 ?l31 ?c31 ?k31 ?a32 ?l32 ?c32 ?k32 ?a33 ?l33 ?c33 ?k33 ?a34 ?l34 ?c34 ?k34 ?a35 ?l35 ?c35 ?k35 ?a36 ?l36 ?c36 ?k36 ?a37 ?l37 ?c37 ?k37 ?a38 ?l38 ?c38 ?k38 ?a39 ?l39 ?c39 ?k39 ?a40 ?l40 ?c40 ?k40 ?z_isinstance ?z_int ?z_bool ?z_str ?z_len ?z_all ?z_tuple ?z_list ?z_enumerate ?z_range ?z_ValueError ?z_LETTERS ?z_MODES ?z_MOST_DEEDS ?z_MOST_HANDS ?z_MOST_IN_ALL ?z_MOST_BOXES ?z_WALLS_AT_MOST ?z_MOST_FIRSTS ?z_MOST_SCRIPTS ?lk_MODES ?ac_NoHouse ?ac_WallError ?ac_NoStand ?ac_NoHand ?ac_NoDeed ?ac_NoWall ?ac_NoCount ?ac_TooMany ?ac_NoText ?ac_NoRow ?ac_NoName ?ex_NoHouse ?ek_NoHouse ?es_NoHouse ?et_NoHouse ?xg_NoHouse ?xk_NoHouse ?xd_NoHouse ?xa_NoHouse ?xm_NoHouse ?x_n ?x_t ?tm_WallError_NoHouse ?ki_NoHouse_NoHouse ?ki_NoStand_NoHouse ?ki_NoHand_NoHouse ?ki_NoDeed_NoHouse ?ki_NoWall_NoHouse ?ki_NoCount_NoHouse ?ki_TooMany_NoHouse ?ki_NoText_NoHouse ?ki_NoRow_NoHouse ?ki_NoName_NoHouse ?ki_ValueError_NoHouse
    (case a0 => k_is); (case l0 => k_is); (case c0 => k_is); (case k0 => k_is); (case a1 => k_is); (case l1 => k_is); (case c1 => k_is); (case k1 => k_is); (case a2 => k_is); (case l2 => k_is); (case c2 => k_is); (case k2 => k_is); (case a3 => k_is); (case l3 => k_is); (case c3 => k_is); (case k3 => k_is); (case a4 => k_is); (case l4 => k_is); (case c4 => k_is); (case k4 => k_is); (case a5 => k_is); (case l5 => k_is); (case c5 => k_is); (case k5 => k_is); (case a6 => k_is); (case l6 => k_is); (case c6 => k_is); (case k6 => k_is); (case a7 => k_is); (case l7 => k_is); (case c7 => k_is); (case k7 => k_is); (case a8 => k_is); (case l8 => k_is); (case c8 => k_is); (case k8 => k_is); (case a9 => k_is); (case l9 => k_is); (case c9 => k_is); (case k9 => k_is); (case a10 => k_is); (case l10 => k_is); (case c10 => k_is); (case k10 => k_is); (case a11 => k_is); (case l11 => k_is); (case c11 => k_is); (case k11 => k_is); (case a12 => k_is); (case l12 => k_is); (case c12 => k_is); (case k12 => k_is); (case a13 => k_is); (case l13 => k_is); (case c13 => k_is); (case k13 => k_is); (case a14 => k_is); (case l14 => k_is); (case c14 => k_is); (case k14 => k_is); (case a15 => k_is); (case l15 => k_is); (case c15 => k_is); (case k15 => k_is); (case a16 => k_is); (case l16 => k_is); (case c16 => k_is); (case k16 => k_is); (case a17 => k_is); (case l17 => k_is); (case c17 => k_is); (case k17 => k_is); (case a18 => k_is); (case l18 => k_is); (case c18 => k_is); (case k18 => k_is); (case a19 => k_is); (case l19 => k_is); (case c19 => k_is); (case k19 => k_is); (case a20 => k_is); (case l20 => k_is); (case c20 => k_is); (case k20 => k_is); (case a21 => k_is); (case l21 => k_is); (case c21 => k_is); (case k21 => k_is); (case a22 => k_is); (case l22 => k_is); (case c22 => k_is); (case k22 => k_is); (case a23 => k_is); (case l23 => k_is); (case c23 => k_is); (case k23 => k_is); (case a24 => k_is); (case l24 => k_is); (case c24 => k_is); (case k24 => k_is); (case a25 => k_is); (case l25 => k_is); (case c25 => k_is); (case k25 => k_is); (case a26 => k_is); (case l26 => k_is); (case c26 => k_is); (case k26 => k_is); (case a27 => k_is); (case l27 => k_is); (case c27 => k_is); (case k27 => k_is); (case a28 => k_is); (case l28 => k_is); (case c28 => k_is); (case k28 => k_is); (case a29 => k_is); (case l29 => k_is); (case c29 => k_is); (case k29 => k_is); (case a30 => k_is); (case l30 => k_is); (case c30 => k_is); (case k30 => k_is); (case a31 => k_is); (case l31 => k_is); (case c31 => k_is); (case k31 => k_is); (case a32 => k_is); (case l32 => k_is); (case c32 => k_is); (case k32 => k_is); (case a33 => k_is); (case l33 => k_is); (case c33 => k_is); (case k33 => k_is); (case a34 => k_is); (case l34 => k_is); (case c34 => k_is); (case k34 => k_is); (case a35 => k_is); (case l35 => k_is); (case c35 => k_is); (case k35 => k_is); (case a36 => k_is); (case l36 => k_is); (case c36 => k_is); (case k36 => k_is); (case a37 => k_is); (case l37 => k_is); (case c37 => k_is); (case k37 => k_is); (case a38 => k_is); (case l38 => k_is); (case c38 => k_is); (case k38 => k_is); (case a39 => k_is); (case l39 => k_is); (case c39 => k_is); (case k39 => k_is); (case a40 => k_is); (case l40 => k_is); (case c40 => k_is); (case k40 => k_is); (case z_isinstance => k_is); (case z_int => k_is); (case z_bool => k_is); (case z_str => k_is); (case z_len => k_is); (case z_all => k_is); (case z_tuple => k_is); (case z_list => k_is); (case z_enumerate => k_is); (case z_range => k_is); (case z_ValueError => k_is); (case z_LETTERS => k_is); (case z_MODES => k_is); (case z_MOST_DEEDS => k_is); (case z_MOST_HANDS => k_is); (case z_MOST_IN_ALL => k_is); (case z_MOST_BOXES => k_is); (case z_WALLS_AT_MOST => k_is); (case z_MOST_FIRSTS => k_is); (case z_MOST_SCRIPTS => k_is); (case lk_MODES => k_is); (case ac_NoHouse => k_is); (case ac_WallError => k_is); (case ac_NoStand => k_is); (case ac_NoHand => k_is); (case ac_NoDeed => k_is); (case ac_NoWall => k_is); (case ac_NoCount => k_is); (case ac_TooMany => k_is); (case ac_NoText => k_is); (case ac_NoRow => k_is); (case ac_NoName => k_is); (case ex_NoHouse => k_exc); (case ek_NoHouse => k_is); (case es_NoHouse => k_is); (case et_NoHouse => k_is); (case xg_NoHouse => k_is); (case xk_NoHouse => k_is); (case xd_NoHouse => k_is); (case xa_NoHouse => k_is); (case xm_NoHouse => k_is); (case x_n => k_is); (case x_t => k_is); (case tm_WallError_NoHouse => first | rfl | k_is); (case ki_NoHouse_NoHouse => first | rfl | k_is); (case ki_NoStand_NoHouse => first | rfl | k_is); (case ki_NoHand_NoHouse => first | rfl | k_is); (case ki_NoDeed_NoHouse => first | rfl | k_is); (case ki_NoWall_NoHouse => first | rfl | k_is); (case ki_NoCount_NoHouse => first | rfl | k_is); (case ki_TooMany_NoHouse => first | rfl | k_is); (case ki_NoText_NoHouse => first | rfl | k_is); (case ki_NoRow_NoHouse => first | rfl | k_is); (case ki_NoName_NoHouse => first | rfl | k_is); (case ki_ValueError_NoHouse => first | rfl | k_is)

